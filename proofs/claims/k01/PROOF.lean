import PyProof.Rows.All
import Wide.All
import OpenK.AllK
import Wide.FinOn
import HandS.ForMost
import HandS.ForExc
import HandS.CallSlots
import HandS.Wide
import HandS.TupAny
import HandS.TupMul
import HandS.IsInst
import HandS.NoneIn
import HandS.Style
import HandS.Deep
import HandS.Conv
import HandS.Zip
import HandS.Walk
import HandS.Flow
import KE.SortData
import PyProof.ReprRoads
import PyProof.CallFns
import HandS.Lambda
import HandS.EndTab
import HandS.EndOwn
import HandS.Ends
import HandS.SetFor
import KE.KUnpackStar
import HandS.DictComp
import HandS.WordsExc
import KE.GoesMore
import HandS.More
import KE.DataMinMax
import KE.DataFind
import KE.KTupSum
import KE.KDictSum
import KE.KDictCopyH
import PyProof.Rows.CallKwBuiltin
import KE.KRevSl
import HandS.ReCall
import HandS.SortKw
import KE.GoesEnumKw
import HandS.TryOnly
import HandS.ExcOwn
import PyProof.ExcBaseAll.ValueError
import KE.KExcInit
import PyProof.ExcBaseAll.LookupError
import PyProof.ExcBaseAll.RuntimeError
import HandS.ExcField
import HandS.TryMany
import KE.KTryMore
import KE.KExcIs
import KE.KxText
import PyProof.ReprLen
import PySem.Challenge.RW_comeright_k01_webs_known
set_option Elab.async false
set_option linter.all false
set_option maxRecDepth 100000
section
/-! DL1: data over the hand layer: values as trees, a store of what may change, what an expression or a statement comes to. -/
namespace DL
open PySem PySem.Spec PyProof.Rows L2

/-- a value: data; an object of the store; a thing of the module by its name -/
inductive D where
  | pd (x : PyData)
  | ref (n : Nat)
  | glob (x : Str)
  | xt (ds : List PyData)
  | raw (v : V)
abbrev D.non : D := .pd .none
abbrev D.bl (b : Bool) : D := .pd (.bool b)
abbrev D.int (i : Int) : D := .pd (.int i)
abbrev D.str (x : Str) : D := .pd (.str x)
abbrev D.tup (xs : List PyData) : D := .pd (.tuple xs)
abbrev D.lst (xs : List PyData) : D := .pd (.list xs)
instance : Inhabited D := ⟨.non⟩
/-- an object that may change -/
inductive Ob where
  | lst (xs : List D)
  | dct (kvs : List (Key × D))
  | dtt (kvs : List (List Key × D))
  | ins (C : Str) (fs : List (Str × D))
abbrev Sto := List Ob
inductive ECls where
  | own (x : Str)
  | bt (n : String)
structure Exn where
  cls : ECls
  fs : List (Str × D)
inductive Out (α : Type) where
  | ok (a : α) (S : Sto)
  | exc (e : Exn) (σ : List (Option D)) (S : Sto)
  | stuck
abbrev Sl := List (Option D)
abbrev DM (α : Type) := Sl → Sto → Out α
def Out.bind {α β : Type} : Out α → (α → Sto → Out β) → Out β
  | .ok a S, f => f a S
  | .exc e σ S, _ => .exc e σ S
  | .stuck, _ => .stuck
@[simp] theorem Out.bind_ok {α β : Type} (a : α) (S : Sto) (f : α → Sto → Out β) : (Out.ok a S).bind f = f a S := rfl
@[simp] theorem Out.bind_exc {α β : Type} (e : Exn) (σ : Sl) (S : Sto) (f : α → Sto → Out β) : (Out.exc e σ S : Out α).bind f = .exc e σ S := rfl
@[simp] theorem Out.bind_stuck {α β : Type} (f : α → Sto → Out β) : (Out.stuck : Out α).bind f = .stuck := rfl

/-- the ground of a body: the written part, the module's names, what the callers may change, the heap at the entry, the objects handed in to be changed -/
structure G where
  K : PySem.W.Frag
  mg : Str → Option Value
  W : Addr → Prop
  H0 : Hp
  as : List Addr
def G.wr (g : G) (M : List Addr) (a : Addr) : Prop := g.W a ∨ a ∈ M

/-- a table of code objects -/
def IsTb (o : HO) : Prop := ∃ ps, o = .tbl ps
/-! ### what data a value is -/
mutual
inductive Dz (K : PySem.W.Frag) (W : Addr → Prop) (H : Hp) : V → PyData → Prop
  | non : Dz K W H .non .none
  | bl (b : Bool) : Dz K W H (.bl b) (.bool b)
  | int (i : Int) : Dz K W H (.int i) (.int i)
  | str (x : Str) : Dz K W H (.str x) (.str x)
  | lst {a : Addr} {xs : List V} {ds : List PyData} : ¬ W a → Rd H a (.lst xs) → DzAll K W H xs ds → Dz K W H (.ref a) (.list ds)
  | tup {a : Addr} {xs : List V} {ds : List PyData} : SqT K H a xs → DzAll K W H xs ds → Dz K W H (.ref a) (.tuple ds)
  | dct {a : Addr} {kvs : List (Key × V)} {ks ds : List PyData} : ¬ W a → Rd H a (.dK kvs) → DzAll K W H (kvs.map fun p => kV p.1) ks → DzAll K W H (kvs.map (·.2)) ds → Dz K W H (.ref a) (.dict (ks.zip ds))
inductive DzAll (K : PySem.W.Frag) (W : Addr → Prop) (H : Hp) : List V → List PyData → Prop
  | nil : DzAll K W H [] []
  | cons {v : V} {vs : List V} {d : PyData} {ds : List PyData} : Dz K W H v d → DzAll K W H vs ds → DzAll K W H (v :: vs) (d :: ds)
end
section
variable {K : PySem.W.Frag} {W W' : Addr → Prop} {H H' : Hp}
theorem Rd.keep {a : Addr} {u : HO} (r : Rd H a u) (k : ∀ o, H a = some o → ¬ IsTb o → H' a = some o) (n : ¬ IsTb u := by rintro ⟨_, h⟩; cases h) : Rd H' a u := by
  rcases r with r | ⟨o, r⟩
  · exact .inl (k _ r n)
  · exact .inr ⟨o, k _ r (by rintro ⟨_, h⟩; cases h)⟩
theorem Rd.there {a : Addr} {u : HO} (r : Rd H a u) : ∃ o, H a = some o := by
  rcases r with r | ⟨o, r⟩
  · exact ⟨_, r⟩
  · exact ⟨_, r⟩
theorem SqT.keep {a : Addr} {xs : List V} (h : SqT K H a xs) (k : ∀ ys, (H a = some (.tup ys) ∨ ∃ o, H a = some (.frz o (.tup ys))) → ∀ o, H a = some o → ¬ IsTb o → H' a = some o) : SqT K H' a xs := by
  rcases h with h | h
  · exact .inl (Rd.keep h (k xs h))
  · exact .inr h
/-- what was not to be changed is as it was; nothing that was fixed is now to be changed -/
structure Kp (W W' : Addr → Prop) (H H' : Hp) : Prop where
  keep : ∀ a o, H a = some o → ¬ W a → ¬ IsTb o → H' a = some o
  fixed : ∀ a o, H a = some o → ¬ W a → ¬ W' a
  tups : ∀ a, W a → ∀ xs, H a ≠ some (.tup xs) ∧ ∀ o, H a ≠ some (.frz o (.tup xs))
mutual
theorem Dz.keep (k : Kp W W' H H') : ∀ {d : PyData} {v : V}, Dz K W H v d → Dz K W' H' v d
  | _, _, .non => .non
  | _, _, .bl b => .bl b
  | _, _, .int i => .int i
  | _, _, .str x => .str x
  | _, _, .lst nw r ha => by
      obtain ⟨o, e⟩ := Rd.there r
      exact .lst (k.fixed _ o e nw) (Rd.keep r fun o e nt => k.keep _ o e nw nt) (DzAll.keep k ha)
  | _, _, .tup r ha => by
      refine .tup (SqT.keep r fun ys e o e' nt => k.keep _ o e' (fun w => ?_) nt) (DzAll.keep k ha)
      rcases e with e | ⟨o2, e⟩
      · exact (k.tups _ w ys).1 e
      · exact (k.tups _ w ys).2 o2 e
  | _, _, .dct nw r h1 h2 => by
      obtain ⟨o, e⟩ := Rd.there r
      exact .dct (k.fixed _ o e nw) (Rd.keep r fun o e nt => k.keep _ o e nw nt) (DzAll.keep k h1) (DzAll.keep k h2)
theorem DzAll.keep (k : Kp W W' H H') : ∀ {ds : List PyData} {vs : List V}, DzAll K W H vs ds → DzAll K W' H' vs ds
  | _, _, .nil => .nil
  | _, _, .cons h1 h2 => .cons (Dz.keep k h1) (DzAll.keep k h2)
end
end
end DL
end
section
namespace DL
open PySem PySem.Spec PyProof.Rows L2

/-- what a value of the language is here: M tells where the store's objects stand -/
inductive Den (g : G) (M : List Addr) (H : Hp) : D → V → Prop
  | pd {d : PyData} {v : V} : Dz g.K (g.wr M) H v d → Den g M H (.pd d) v
  | ref {n : Nat} {a : Addr} : M[n]? = some a → Den g M H (.ref n) (.ref a)
  | glob {x : Str} {a : Addr} : g.mg x = some (.ref a) → Den g M H (.glob x) (.ref a)
  | xt {ds : List PyData} {a : Addr} {vs : List V} {o : Obj} : H a = some (.frz o (.tup vs)) → o.dict = none → DzAll g.K (g.wr M) H vs ds → Den g M H (.xt ds) (.ref a)
  | raw {v : V} : Den g M H (.raw v) v
abbrev Dens (g : G) (M : List Addr) (H : Hp) : List D → List V → Prop := Paired (Den g M H)
/-- what may be changed is no tuple, no table, no other thing -/
structure NT (o : HO) : Prop where
  no_tup : ∀ xs, o ≠ .tup xs
  no_frz : ∀ ob u, o ≠ .frz ob u
  no_tbl : ∀ ps, o ≠ .tbl ps
  no_ext : ∀ φ, o ≠ .ext φ
theorem NT.lst (xs : List V) : NT (.lst xs) := ⟨fun _ h => (nomatch h), fun _ _ h => (nomatch h), fun _ h => (nomatch h), fun _ h => (nomatch h)⟩
theorem NT.dK (xs : List (Key × V)) : NT (.dK xs) := ⟨fun _ h => (nomatch h), fun _ _ h => (nomatch h), fun _ h => (nomatch h), fun _ h => (nomatch h)⟩
theorem NT.dT (xs : List (List Key × V)) : NT (.dT xs) := ⟨fun _ h => (nomatch h), fun _ _ h => (nomatch h), fun _ h => (nomatch h), fun _ h => (nomatch h)⟩
theorem NT.ins (C x : Addr) (fs : List (Str × V)) : NT (.ins C x fs) := ⟨fun _ h => (nomatch h), fun _ _ h => (nomatch h), fun _ h => (nomatch h), fun _ h => (nomatch h)⟩
/-- the tables of the module's defs: each with the name of a lambda of that def -/
def tabsK (K : PySem.W.Frag) : List (Addr × Str) := K.filterMap fun p => match p.2.data with
  | .func fd => (PySem.W.tabIn K fd.name).map fun q => (q.2, (fd.name ++ (".<locals>." : Str)) ++ ("<lambda>" : Str))
  | _ => none
inductive ObDen (g : G) (M : List Addr) (H : Hp) (a : Addr) : Ob → Prop
  | lst {ds : List D} {vs : List V} : H a = some (.lst vs) → Dens g M H ds vs → ObDen g M H a (.lst ds)
  | dct {kvs : List (Key × D)} {ws : List (Key × V)} : H a = some (.dK ws) → Paired (fun p q => p.1 = q.1 ∧ Den g M H p.2 q.2) kvs ws → ObDen g M H a (.dct kvs)
  | dtt {kvs : List (List Key × D)} {ws : List (List Key × V)} : H a = some (.dT ws) → Paired (fun p q => p.1 = q.1 ∧ Den g M H p.2 q.2) kvs ws → ObDen g M H a (.dtt kvs)
  | ins {C : Str} {Ca dx : Addr} {fs : List (Str × D)} {ws : List (Str × V)} : g.mg C = some (.ref Ca) → H a = some (.ins Ca dx ws) → Paired (fun p q => p.1 = q.1 ∧ Den g M H p.2 q.2) fs ws → ObDen g M H a (.ins C fs)
structure RepS (g : G) (M : List Addr) (S : Sto) (H : Hp) : Prop where
  nd : M.Nodup
  pre : g.as <+: M
  obs : Paired (fun ob a => ObDen g M H a ob) S M
  fresh : ∀ a ∈ M, a ∉ g.as → g.H0 a = none
  own : ∀ a ∈ M, a ∉ g.as → ¬ g.W a
  keep : ∀ a o, g.H0 a = some o → ¬ IsTb o → a ∉ g.as → H a = some o
  amb : ∀ a, g.W a → ∃ o, H a = some o ∧ NT o
  asW : ∀ a ∈ g.as, g.W a
  th0 : ∀ a o, g.H0 a = some o → ∃ o', H a = some o'
  tabs : LamX.Tabs (tabsK g.K) H
structure Ext (g : G) (M : List Addr) (H : Hp) (M' : List Addr) (H' : Hp) : Prop where
  pre : M <+: M'
  new : ∀ a ∈ M', a ∉ M → H a = none
  keep : ∀ a o, H a = some o → ¬ IsTb o → a ∉ M → H' a = some o
  there : ∀ a o, H a = some o → ∃ o', H' a = some o'
section
variable {g : G} {M M' M'' : List Addr} {H H' H'' : Hp} {S : Sto}
theorem Ext.refl : Ext g M H M H := ⟨List.prefix_refl _, fun _ h n => absurd h n, fun _ _ e _ _ => e, fun _ o e => ⟨o, e⟩⟩
theorem mem_pre {a : Addr} {l l' : List Addr} (p : l <+: l') (h : a ∈ l) : a ∈ l' := p.subset h
theorem Ext.trans (x : Ext g M H M' H') (y : Ext g M' H' M'' H'') : Ext g M H M'' H'' where
  pre := x.pre.trans y.pre
  new := fun a h n => by
    by_cases h' : a ∈ M'
    · exact x.new a h' n
    · cases e : H a with
      | none => rfl
      | some o =>
        obtain ⟨o', e'⟩ := x.there a o e
        have := y.new a h h'
        rw [e'] at this; cases this
  keep := fun a o e nt n => y.keep a o (x.keep a o e nt n) nt fun h => by
    have := x.new a h n
    rw [e] at this; cases this
  there := fun a o e => let ⟨o', e'⟩ := x.there a o e; y.there a o' e'
theorem ObDen.there {a : Addr} {ob : Ob} (h : ObDen g M H a ob) : ∃ o, H a = some o ∧ NT o := by
  cases h with
  | lst e _ => exact ⟨_, e, by first | exact NT.lst _ | exact NT.dK _ | exact NT.dT _ | exact NT.ins _ _ _⟩
  | dct e _ => exact ⟨_, e, by first | exact NT.lst _ | exact NT.dK _ | exact NT.dT _ | exact NT.ins _ _ _⟩
  | dtt e _ => exact ⟨_, e, by first | exact NT.lst _ | exact NT.dK _ | exact NT.dT _ | exact NT.ins _ _ _⟩
  | ins _ e _ => exact ⟨_, e, by first | exact NT.lst _ | exact NT.dK _ | exact NT.dT _ | exact NT.ins _ _ _⟩
theorem Paired.mem_right {α β : Type} {F : α → β → Prop} : ∀ {l : List α} {l' : List β}, Paired F l l' → ∀ b ∈ l', ∃ a ∈ l, F a b
  | _, _, .nil, _, h => by cases h
  | _, _, .cons r t, b, h => by
    rcases List.mem_cons.mp h with rfl | h
    · exact ⟨_, List.mem_cons_self, r⟩
    · obtain ⟨a, ha, f⟩ := Paired.mem_right t b h
      exact ⟨a, List.mem_cons_of_mem _ ha, f⟩
theorem Paired.get {α β : Type} {F : α → β → Prop} : ∀ {l : List α} {l' : List β}, Paired F l l' → ∀ {i : Nat} {a : α}, l[i]? = some a → ∃ b, l'[i]? = some b ∧ F a b
  | _, _, .nil, i, _, h => by simp at h
  | _, _, .cons r t, 0, _, h => by
    simp at h; subst h
    exact ⟨_, by simp, r⟩
  | _, _, .cons r t, i + 1, _, h => by
    obtain ⟨b, e, f⟩ := Paired.get t (i := i) (by simpa using h)
    exact ⟨b, by simpa using e, f⟩
theorem Paired.getR {α β : Type} {F : α → β → Prop} : ∀ {l : List α} {l' : List β}, Paired F l l' → ∀ {i : Nat} {b : β}, l'[i]? = some b → ∃ a, l[i]? = some a ∧ F a b
  | _, _, .nil, i, _, h => by simp at h
  | _, _, .cons r t, 0, _, h => by
    simp at h; subst h
    exact ⟨_, by simp, r⟩
  | _, _, .cons r t, i + 1, _, h => by
    obtain ⟨b, e, f⟩ := Paired.getR t (i := i) (by simpa using h)
    exact ⟨b, by simpa using e, f⟩
theorem Paired.imp {α β : Type} {F F' : α → β → Prop} : ∀ {l : List α} {l' : List β}, Paired F l l' → (∀ a b, F a b → F' a b) → Paired F' l l'
  | _, _, .nil, _ => .nil
  | _, _, .cons r t, f => .cons (f _ _ r) (Paired.imp t f)
theorem Paired.app {α β : Type} {F : α → β → Prop} : ∀ {l m : List α} {l' m' : List β}, Paired F l l' → Paired F m m' → Paired F (l ++ m) (l' ++ m')
  | _, _, _, _, .nil, h => h
  | _, _, _, _, .cons r t, h => .cons r (Paired.app t h)
theorem Paired.setR {α β : Type} {F : α → β → Prop} {a : α} {b : β} (f : F a b) : ∀ {l : List α} {l' : List β}, Paired F l l' → ∀ (i : Nat), Paired F (l.set i a) (l'.set i b)
  | _, _, .nil, _ => .nil
  | _, _, .cons r t, 0 => .cons f t
  | _, _, .cons r t, i + 1 => .cons r (Paired.setR f t i)
theorem Paired.len {α β : Type} {F : α → β → Prop} : ∀ {l : List α} {l' : List β}, Paired F l l' → l.length = l'.length
  | _, _, .nil => rfl
  | _, _, .cons _ t => by rw [List.length_cons, List.length_cons, Paired.len t]
theorem RepS.there (r : RepS g M S H) {a : Addr} (h : a ∈ M) : ∃ o, H a = some o ∧ NT o := by
  obtain ⟨ob, _, d⟩ := Paired.mem_right r.obs a h
  exact d.there
theorem RepS.wr_there (r : RepS g M S H) {a : Addr} (h : g.wr M a) : ∃ o, H a = some o ∧ NT o := by
  rcases h with h | h
  · exact r.amb a h
  · exact r.there h
/-- data stays what it is -/
theorem kp (r : RepS g M S H) (x : Ext g M H M' H') : Kp (g.wr M) (g.wr M') H H' where
  keep := fun a o e n nt => x.keep a o e nt fun h => n (.inr h)
  fixed := fun a o e n h => by
    rcases h with h | h
    · exact n (.inl h)
    · have := x.new a h fun h' => n (.inr h')
      rw [e] at this; cases this
  tups := fun a w xs => by
    obtain ⟨o, e, nt⟩ := r.wr_there w
    exact ⟨fun q => by rw [e] at q; cases q; exact nt.no_tup xs rfl, fun o' q => by rw [e] at q; cases q; exact nt.no_frz o' _ rfl⟩
theorem Den.ext (r : RepS g M S H) (x : Ext g M H M' H') {d : D} {v : V} (h : Den g M H d v) : Den g M' H' d v := by
  cases h with
  | pd h => exact .pd (h.keep (kp r x))
  | ref h =>
    obtain ⟨t, rfl⟩ := x.pre
    exact .ref (by rw [List.getElem?_append_left (List.getElem?_eq_some_iff.mp h).1]; exact h)
  | glob h => exact .glob h
  | raw => exact .raw
  | xt h hd z =>
    have k := kp r x
    exact .xt (k.keep _ _ h (fun w => (k.tups _ w _).2 _ h) (by rintro ⟨_, q⟩; cases q)) hd (z.keep k)
theorem Dens.ext (r : RepS g M S H) (x : Ext g M H M' H') {ds : List D} {vs : List V} (h : Dens g M H ds vs) : Dens g M' H' ds vs := Paired.imp h fun _ _ d => d.ext r x
theorem wr_asc {M : List Addr} {a : Addr} : g.wr M a ↔ g.W a ∨ a ∈ M := Iff.rfl

/-- a new object that stays as it is -/
theorem Ext.new1 {p : Addr} {o : HO} (n : H p = none) : Ext g M H M (upd H p o) :=
  ⟨List.prefix_refl _, fun _ h n => absurd h n, fun a u e _ _ => by rw [upd_ne (ne_of_none e n)]; exact e, fun a u e => ⟨u, by rw [upd_ne (ne_of_none e n)]; exact e⟩⟩
/-- the tables stay where what is written is new, or was to be changed -/
theorem tabs_ext {T : List (Addr × Str)} (t : LamX.Tabs T H) (e : ∀ b o, H b = some o → (IsTb o ∨ ∃ φ, o = .ext φ) → H' b = some o) : LamX.Tabs T H' := fun p hp => by
  obtain ⟨ps, h1, h2, h3⟩ := t p hp
  refine ⟨ps, e _ _ h1 (.inl ⟨ps, rfl⟩), h2, fun pos cv hc => ?_⟩
  obtain ⟨c, e1, e2⟩ := h3 pos cv hc
  exact ⟨c, e1, e _ _ e2 (.inr ⟨_, rfl⟩)⟩
theorem tabs_upd {T : List (Addr × Str)} {p : Addr} {o u : HO} (t : LamX.Tabs T H) (h : H p = some o) (nt : NT o) : LamX.Tabs T (upd H p u) := tabs_ext t fun b w e q => by
  rw [upd_ne (show b ≠ p from fun z => ?_)]
  · exact e
  · rw [z, h] at e
    cases e
    rcases q with ⟨ps, q⟩ | ⟨φ, q⟩
    · exact nt.no_tbl _ q
    · exact nt.no_ext _ q
theorem tabs_new {T : List (Addr × Str)} {p : Addr} {u : HO} (t : LamX.Tabs T H) (h : H p = none) : LamX.Tabs T (upd H p u) := tabs_ext t fun b w e q => by
  rw [upd_ne (ne_of_none e h)]
  exact e
theorem ObDen.ext (r : RepS g M S H) (x : Ext g M H M' H') {a : Addr} {ob : Ob} (h : ObDen g M H a ob) (k : ∀ o, H a = some o → ¬ IsTb o → H' a = some o) : ObDen g M' H' a ob := by
  cases h with
  | lst e d => exact .lst (k _ e (by rintro ⟨_, q⟩; cases q)) (d.ext r x)
  | dct e d => exact .dct (k _ e (by rintro ⟨_, q⟩; cases q)) (Paired.imp d fun _ _ q => ⟨q.1, q.2.ext r x⟩)
  | dtt e d => exact .dtt (k _ e (by rintro ⟨_, q⟩; cases q)) (Paired.imp d fun _ _ q => ⟨q.1, q.2.ext r x⟩)
  | ins c e d => exact .ins c (k _ e (by rintro ⟨_, q⟩; cases q)) (Paired.imp d fun _ _ q => ⟨q.1, q.2.ext r x⟩)
theorem RepS.new1 {p : Addr} {o : HO} (r : RepS g M S H) (n : H p = none) : RepS g M S (upd H p o) where
  nd := r.nd
  pre := r.pre
  obs := Paired.imp r.obs fun ob a d => d.ext r (Ext.new1 n) fun u e _ => by rw [upd_ne (ne_of_none e n)]; exact e
  fresh := r.fresh
  own := r.own
  keep := fun a u e it na => by rw [upd_ne (ne_of_none (r.keep a u e it na) n)]; exact r.keep a u e it na
  amb := fun a w => let ⟨u, e, nt⟩ := r.amb a w; ⟨u, by rw [upd_ne (ne_of_none e n)]; exact e, nt⟩
  asW := r.asW
  th0 := fun a u e => let ⟨w, q⟩ := r.th0 a u e; ⟨w, by rw [upd_ne (ne_of_none q n)]; exact q⟩
  tabs := tabs_new r.tabs n
/-- a new address is nobody's -/
theorem RepS.free (r : RepS g M S H) {p : Addr} (n : H p = none) : ¬ g.wr M p := fun w => by
  obtain ⟨o, e, _⟩ := r.wr_there w
  rw [n] at e; cases e
/-- a new object of the store -/
theorem Ext.newM {p : Addr} {o : HO} (n : H p = none) : Ext g M H (M ++ [p]) (upd H p o) :=
  ⟨List.prefix_append _ _, fun a h na => by
    rcases List.mem_append.mp h with h | h
    · exact absurd h na
    · have e : a = p := by simpa using h
      rw [e]; exact n, fun a u e _ _ => by rw [upd_ne (ne_of_none e n)]; exact e, fun a u e => ⟨u, by rw [upd_ne (ne_of_none e n)]; exact e⟩⟩
theorem RepS.newM {p : Addr} {o : HO} {ob : Ob} (r : RepS g M S H) (n : H p = none) (h : ObDen g (M ++ [p]) (upd H p o) p ob) (h0 : ∀ u, g.H0 p = some u → False) : RepS g (M ++ [p]) (S ++ [ob]) (upd H p o) where
  nd := by
    rw [List.nodup_append]
    refine ⟨r.nd, by simp, fun a ha b hb e => ?_⟩
    have e2 : b = p := by simpa using hb
    subst e e2
    exact r.free n (.inr ha)
  pre := r.pre.trans (List.prefix_append _ _)
  obs := Paired.app (Paired.imp r.obs fun ob a d => d.ext r (Ext.newM n) fun u e _ => by rw [upd_ne (ne_of_none e n)]; exact e) (.cons h .nil)
  fresh := fun a h na => by
    rcases List.mem_append.mp h with h | h
    · exact r.fresh a h na
    · have e : a = p := by simpa using h
      subst e
      cases q : g.H0 a with
      | none => rfl
      | some u => exact (h0 u q).elim
  own := fun a h na => by
    rcases List.mem_append.mp h with h | h
    · exact r.own a h na
    · have e : a = p := by simpa using h
      subst e
      exact fun w => r.free n (.inl w)
  keep := fun a u e it na => by rw [upd_ne (ne_of_none (r.keep a u e it na) n)]; exact r.keep a u e it na
  amb := fun a w => let ⟨u, e, nt⟩ := r.amb a w; ⟨u, by rw [upd_ne (ne_of_none e n)]; exact e, nt⟩
  asW := r.asW
  th0 := fun a u e => let ⟨w, q⟩ := r.th0 a u e; ⟨w, by rw [upd_ne (ne_of_none q n)]; exact q⟩
  tabs := tabs_new r.tabs n
theorem RepS.h0 (r : RepS g M S H) {p : Addr} (n : H p = none) : ∀ u, g.H0 p = some u → False := fun u e => by
  obtain ⟨o, q⟩ := r.th0 p u e
  rw [n] at q; cases q
/-- an object of the store is changed -/
theorem Ext.write {n : Nat} {a : Addr} {o : HO} (e : M[n]? = some a) : Ext g M H M (upd H a o) :=
  ⟨List.prefix_refl _, fun _ h n => absurd h n, fun b u q _ nb => by
    rw [upd_ne (show b ≠ a from fun z => nb (by rw [z]; exact List.mem_of_getElem? e))]; exact q, fun b u q => by
    by_cases z : b = a
    · subst z; exact ⟨o, upd_same⟩
    · exact ⟨u, by rw [upd_ne z]; exact q⟩⟩
theorem RepS.write {n : Nat} {a : Addr} {o : HO} {ob : Ob} (r : RepS g M S H) (e : M[n]? = some a) (nt : NT o) (h : ObDen g M (upd H a o) a ob) : RepS g M (S.set n ob) (upd H a o) where
  nd := r.nd
  pre := r.pre
  obs := by
    have x : Ext g M H M (upd H a o) := Ext.write e
    have key : ∀ (S : Sto) (L : List Addr) (n : Nat), L.Nodup → L[n]? = some a → Paired (fun ob b => ObDen g M H b ob) S L → Paired (fun ob b => ObDen g M (upd H a o) b ob) (S.set n ob) L := by
      intro S L n nd e q
      induction q generalizing n with
      | nil => exact .nil
      | @cons b c bs cs r1 t ih =>
        have nd' := List.nodup_cons.mp nd
        cases n with
        | zero =>
          simp at e
          subst e
          refine .cons h ?_
          clear ih
          have : ∀ (bs : Sto) (cs : List Addr), c ∉ cs → Paired (fun ob b => ObDen g M H b ob) bs cs → Paired (fun ob b => ObDen g M (upd H c o) b ob) bs cs := by
            intro bs cs hn q
            induction q with
            | nil => exact .nil
            | @cons b' c' _ _ r2 _ ih2 =>
              exact .cons (r2.ext r x fun u e _ => by rw [upd_ne (show c' ≠ c from fun z => hn (by rw [z]; exact List.mem_cons_self))]; exact e) (ih2 fun z => hn (List.mem_cons_of_mem _ z))
          exact this bs cs nd'.1 t
        | succ n =>
          simp at e
          refine .cons (r1.ext r x fun u e' _ => ?_) (ih n nd'.2 e)
          rw [upd_ne (show c ≠ a from fun z => nd'.1 (by rw [z]; exact List.mem_of_getElem? e))]; exact e'
    exact key S M n r.nd e r.obs
  fresh := r.fresh
  own := r.own
  keep := fun b u q it na => by
    rw [upd_ne ?_]
    · exact r.keep b u q it na
    · intro z
      subst z
      have := r.fresh b (List.mem_of_getElem? e) na
      rw [q] at this; cases this
  amb := fun b w => by
    by_cases z : b = a
    · subst z; exact ⟨o, upd_same, nt⟩
    · obtain ⟨u, q, nt⟩ := r.amb b w
      exact ⟨u, by rw [upd_ne z]; exact q, nt⟩
  asW := r.asW
  th0 := fun b u q => by
    obtain ⟨w, q⟩ := r.th0 b u q
    by_cases z : b = a
    · subst z; exact ⟨o, upd_same⟩
    · exact ⟨w, by rw [upd_ne z]; exact q⟩
  tabs := by
    obtain ⟨o', q, nt'⟩ := r.there (List.mem_of_getElem? e)
    exact tabs_upd r.tabs q nt'
theorem RepS.ob (r : RepS g M S H) {n : Nat} {ob : Ob} (e : S[n]? = some ob) : ∃ a, M[n]? = some a ∧ ObDen g M H a ob := Paired.get r.obs e
end
end DL
end
section
namespace DL
open PySem PySem.Spec PyProof.Rows L2
abbrev St := L2.St

def ClsIs (g : G) : ECls → Value → Prop
  | .own x, c => ∃ C, g.mg x = some (.ref C) ∧ c = .ref C
  | .bt n, c => c = .type n
inductive ExDen (g : G) (L : List Addr) (H : Hp) (e : Exn) : Value → Option Addr → Prop
  | none {c : Value} : ClsIs g e.cls c → e.fs = [] → ExDen g L H e c none
  | some {c : Value} {d : Addr} {ws : List (Str × V)} : ClsIs g e.cls c → H d = some (.xd ws) → Paired (fun p q => p.1 = q.1 ∧ Den g L H p.2 q.2) e.fs ws → ExDen g L H e c (some d)
def SlDen (g : G) (L : List Addr) (H : Hp) (σd : Sl) (σ : L2.St) : Prop := ∀ (i : Nat) (d : D), σd[i]? = some (some d) → ∃ v, σ[i]? = some (some v) ∧ Den g L H d v
/-- what an outcome is to bring -/
def Ev (g : G) (E : WX) (L : List Addr) (H : Hp) {α : Type} : Out α → (α → Sto → List Addr → Hp → Prop) → Prop
  | .ok a S', P => ∀ L' H', Ext g L H L' H' → RepS g L' S' H' → P a S' L' H'
  | .exc e σd S', _ => ∀ L' H' c x σ, Ext g L H L' H' → RepS g L' S' H' → SlDen g L' H' σd σ → ExDen g L' H' e c x → E c x σ H'
  | .stuck, _ => False
def PV (g : G) (Q : VK) : D → Sto → List Addr → Hp → Prop := fun d _ L H => ∀ v, Den g L H d v → Q v H
def PB (Q : Bool → Hp → Prop) : Bool → Sto → List Addr → Hp → Prop := fun b _ _ H => Q b H
def PL (g : G) (Q : List V → Hp → Prop) : List D → Sto → List Addr → Hp → Prop := fun d _ L H => ∀ v, Dens g L H d v → Q v H
inductive Fl where
  | next (σ : Sl)
  | ret (d : D)
  | brk (σ : Sl)
  | cont (σ : Sl)
def PF (g : G) (D : Ends) : Fl → Sto → List Addr → Hp → Prop
  | .next σd, _, L, H => ∀ σ, SlDen g L H σd σ → D.nx σ H
  | .brk σd, _, L, H => ∀ σ, SlDen g L H σd σ → D.bk σ H
  | .cont σd, _, L, H => ∀ σ, SlDen g L H σd σ → D.ct σ H
  | .ret d, _, L, H => ∀ v, Den g L H d v → D.rt v H
def PSl (g : G) (Q : St → Hp → Prop) : Sl → Sto → List Addr → Hp → Prop := fun σd _ L H => ∀ σ, SlDen g L H σd σ → Q σ H
/-- the readings by data -/
def T (g : G) (E : WX) (m : DM D) : TE := fun σ H Q => ∃ L σd S, RepS g L S H ∧ SlDen g L H σd σ ∧ Ev g E L H (m σd S) (PV g Q)
def TB (g : G) (E : WX) (m : DM Bool) : TT := fun σ H Q => ∃ L σd S, RepS g L S H ∧ SlDen g L H σd σ ∧ Ev g E L H (m σd S) (PB Q)
def TL (g : G) (E : WX) (m : DM (List D)) : TA := fun σ H Q => ∃ L σd S, RepS g L S H ∧ SlDen g L H σd σ ∧ Ev g E L H (m σd S) (PL g Q)
def TSt (g : G) (E : WX) (m : DM Fl) : TS := fun D σ H => ∃ L σd S, RepS g L S H ∧ SlDen g L H σd σ ∧ Ev g E L H (m σd S) (PF g D)
def TTg (g : G) (E : WX) (f : D → DM Sl) : TG := fun v σ H Q => ∃ L σd S, RepS g L S H ∧ SlDen g L H σd σ ∧ ∃ d, Den g L H d v ∧ Ev g E L H (f d σd S) (PSl g Q)
def TTgs (g : G) (E : WX) (f : List D → DM Sl) : TGs := fun vs σ H Q => ∃ L σd S, RepS g L S H ∧ SlDen g L H σd σ ∧ ∃ ds, Dens g L H ds vs ∧ Ev g E L H (f ds σd S) (PSl g Q)

theorem PE.imp {X : Cx} {e : Expr} {t t' : TE} (h : PE X e t) (i : ∀ σ H Q, t' σ H Q → t σ H Q) : PE X e t' := ⟨fun p s σ H Q I q => h.run p s σ H Q I (i σ H Q q)⟩
theorem PT.imp {X : Cx} {e : Expr} {t t' : TT} (h : PT X e t) (i : ∀ σ H Q, t' σ H Q → t σ H Q) : PT X e t' := ⟨fun p s σ H Q I q => h.run p s σ H Q I (i σ H Q q)⟩
theorem PW.imp {X : Cx} {e : Expr} {t t' : TT} (h : PW X e t) (i : ∀ σ H Q, t' σ H Q → t σ H Q) : PW X e t' := ⟨fun w p s σ H Q I q => h.run w p s σ H Q I (i σ H Q q)⟩
theorem PA.imp {X : Cx} {e : List Expr} {t t' : TA} (h : PA X e t) (i : ∀ σ H Q, t' σ H Q → t σ H Q) : PA X e t' := ⟨fun w p s σ H Q I q => h.run w p s σ H Q I (i σ H Q q)⟩
theorem PS.imp {X : Cx} {e : Stmt} {t t' : TS} (h : PS X e t) (i : ∀ D σ H, t' D σ H → t D σ H) : PS X e t' := ⟨fun p s σ H D I q => h.run p s σ H D I (i D σ H q)⟩
theorem PSs.imp {X : Cx} {e : List Stmt} {t t' : TS} (h : PSs X e t) (i : ∀ D σ H, t' D σ H → t D σ H) : PSs X e t' := ⟨fun p s σ H D I q => h.run p s σ H D I (i D σ H q)⟩
theorem PG.imp {X : Cx} {e : Expr} {t t' : TG} (h : PG X e t) (i : ∀ v σ H Q, t' v σ H Q → t v σ H Q) : PG X e t' := ⟨fun p s σ H v u Q I r q => h.run p s σ H v u Q I r (i v σ H Q q)⟩
theorem PGs.imp {X : Cx} {e : List Expr} {t t' : TGs} (h : PGs X e t) (i : ∀ v σ H Q, t' v σ H Q → t v σ H Q) : PGs X e t' := ⟨fun p s σ H v u Q I r q => h.run p s σ H v u Q I r (i v σ H Q q)⟩

/-! ### one after another -/
def mBind {α β : Type} (m : DM α) (f : α → DM β) : DM β := fun σ S => (m σ S).bind fun a S' => f a σ S'
def mRet {α : Type} (a : α) : DM α := fun _ S => .ok a S
def mStuck {α : Type} : DM α := fun _ _ => .stuck
def ofO {α : Type} (o : Option α) (S : Sto) : Out α := match o with
  | some d => .ok d S
  | none => .stuck
section
variable {α β : Type} {g : G} {E : WX} {L L' L'' : List Addr} {H H' H'' : Hp} {S S' : Sto} {σd : Sl} {σ : St}
theorem SlDen.ext (r : RepS g L S H) (x : Ext g L H L' H') (h : SlDen g L H σd σ) : SlDen g L' H' σd σ := fun i d e =>
  let ⟨v, e', q⟩ := h i d e
  ⟨v, e', q.ext r x⟩
theorem Ev.imp {o : Out α} {P P' : α → Sto → List Addr → Hp → Prop} (h : Ev g E L H o P) (i : ∀ a S' L' H', Ext g L H L' H' → RepS g L' S' H' → P a S' L' H' → P' a S' L' H') : Ev g E L H o P' := by
  cases o with
  | ok a S => exact fun L' H' x r => i a S L' H' x r (h L' H' x r)
  | exc e σ S => exact h
  | stuck => exact h
theorem Ev.of {o : Out α} {P : α → Sto → List Addr → Hp → Prop} (x : Ext g L H L' H') (h : Ev g E L H o P) : Ev g E L' H' o P := by
  cases o with
  | ok a S => exact fun L2 H2 y r => h L2 H2 (x.trans y) r
  | exc e σ S => exact fun L2 H2 c z σ y r s d => h L2 H2 c z σ (x.trans y) r s d
  | stuck => exact h
theorem Ev.bind {m : Out α} {f : α → Sto → Out β} {P : β → Sto → List Addr → Hp → Prop} (h : Ev g E L H (m.bind f) P) : Ev g E L H m (fun a S' L' H' => Ev g E L' H' (f a S') P) := by
  cases m with
  | ok a S => exact fun L' H' x r => Ev.of x h
  | exc e σ S => exact h
  | stuck => exact h
/-- the first part run, then the rest at the state behind -/
theorem Ev.step {m : DM α} {f : α → DM β} {P : β → Sto → List Addr → Hp → Prop} {P' : α → Sto → List Addr → Hp → Prop} (h : Ev g E L H (mBind m f σd S) P)
    (i : ∀ a S' L' H', Ext g L H L' H' → RepS g L' S' H' → Ev g E L' H' (f a σd S') P → P' a S' L' H') : Ev g E L H (m σd S) P' := (Ev.bind h).imp i
theorem Ev.ok {a : α} {P : α → Sto → List Addr → Hp → Prop} (h : Ev g E L H (.ok a S) P) (r : RepS g L S H) : P a S L H := h L H Ext.refl r

/-! ### names, constants -/
def eVar (i : Nat) : DM D := fun σ S => match σ[i]? with
  | some (some d) => .ok d S
  | _ => .stuck
def eK (d : D) : DM D := fun _ S => .ok d S
variable {X : Cx} {pos : Pos}
theorem pd_var (i : Nat) {x : Str} (hN : X.N[i]? = some x := by rfl) (hv : Vis X.env.scope x := by first | exact Or.inl rfl | exact Or.inr (Or.inl rfl) | exact Or.inr (Or.inr rfl)) (hd : (x == ("__debug__" : Str)) = false := by decide)
    (hcd : (x == ("__classdict__" : Str)) = false := by decide) : PE X (.Name x pos) (T g E (eVar i)) :=
  PE.imp (pe_var hN hv hd hcd) fun σ H Q ⟨L, σd, S, r, sl, ev⟩ => by
    unfold eVar at ev
    split at ev
    · rename_i d e
      obtain ⟨v, e', dn⟩ := sl i d e
      exact ⟨v, e', ev.ok r v dn⟩
    · exact ev.elim
theorem pd_int {i : Int} {j} : PE X (.Constant (.int i) j pos) (T g E (eK (.int i))) := PE.imp pe_int fun σ H Q ⟨L, σd, S, r, sl, ev⟩ => ev.ok r _ (.pd (.int i))
theorem pd_bl {b j} : PE X (.Constant (.bool b) j pos) (T g E (eK (.bl b))) := PE.imp pe_bl fun σ H Q ⟨L, σd, S, r, sl, ev⟩ => ev.ok r _ (.pd (.bl b))
theorem pd_str {b j} : PE X (.Constant (.str b) j pos) (T g E (eK (.str b))) := PE.imp pe_str fun σ H Q ⟨L, σd, S, r, sl, ev⟩ => ev.ok r _ (.pd (.str b))
theorem pd_non {j} : PE X (.Constant .none j pos) (T g E (eK .non)) := PE.imp pe_non fun σ H Q ⟨L, σd, S, r, sl, ev⟩ => ev.ok r _ (.pd .non)
/-- a module's int -/
theorem pd_globI {x : Str} {i : Int} (hg : Gl X x) (hm : ∃ t, X.mg x = some (.int i t)) (hd : (x == ("__debug__" : Str)) = false := by decide) : PE X (.Name x pos) (T g E (eK (.int i))) := by
  obtain ⟨t, hm⟩ := hm
  exact PE.imp (pe_glob (v := .int i) hg hm ⟨t, rfl⟩ hd) fun σ H Q ⟨L, σd, S, r, sl, ev⟩ => ev.ok r _ (.pd (.int i))
theorem pd_globS {x : Str} {i : Str} (hg : Gl X x) (hm : ∃ t, X.mg x = some (.str i t)) (hd : (x == ("__debug__" : Str)) = false := by decide) : PE X (.Name x pos) (T g E (eK (.str i))) := by
  obtain ⟨t, hm⟩ := hm
  exact PE.imp (pe_glob (v := .str i) hg hm ⟨t, rfl⟩ hd) fun σ H Q ⟨L, σd, S, r, sl, ev⟩ => ev.ok r _ (.pd (.str i))
/-- a module's constant that is data of the written part -/
theorem pd_globD {x : Str} {d : PyData} {u : Value} {v : V} (hg : Gl X x) (hm : X.mg x = some u) (rv : RelV v u) (hd : ∀ W H, Dz g.K W H v d) (hdb : (x == ("__debug__" : Str)) = false := by decide) : PE X (.Name x pos) (T g E (eK (.pd d))) :=
  PE.imp (pe_glob (v := v) hg hm rv hdb) fun σ H Q ⟨L, σd, S, r, sl, ev⟩ => ev.ok r _ (.pd (hd _ _))
/-- a def or a class of the module as a value -/
theorem pd_globF {x : Str} {a : Addr} (hg : Gl X x) (hm : X.mg x = some (.ref a)) (hgm : g.mg x = some (.ref a)) (hd : (x == ("__debug__" : Str)) = false := by decide) : PE X (.Name x pos) (T g E (eK (.glob x))) :=
  PE.imp (pe_glob (v := .ref a) hg hm rfl hd) fun σ H Q ⟨L, σd, S, r, sl, ev⟩ => ev.ok r _ (.glob hgm)

/-! ### operators -/
/-- a two-place operation by data -/
def OpD (X : Cx) (g : G) (f : Value → Value → Sem Value) (op : D → D → Sto → Out D) : Prop :=
  ∃ r : R2, OpR X f r ∧ ∀ (E : WX) L S H x y dx dy Q, RepS g L S H → Den g L H dx x → Den g L H dy y → Ev g E L H (op dx dy S) (PV g Q) → r x y H Q
def eOp (op : D → D → Sto → Out D) (a b : DM D) : DM D := mBind a fun x => mBind b fun y => fun _ S => op x y S
variable {a b c : Expr} {ma mb mc : DM D}
theorem tOp_of {op : D → D → Sto → Out D} {r : R2} {Q : VK}
    (hs : ∀ (E : WX) L S H x y dx dy Q, RepS g L S H → Den g L H dx x → Den g L H dy y → Ev g E L H (op dx dy S) (PV g Q) → r x y H Q) (h : T g E (eOp op ma mb) σ H Q) : tOp r (T g E ma) (T g E mb) σ H Q := by
  obtain ⟨L, σd, S, rp, sl, ev⟩ := h
  refine ⟨L, σd, S, rp, sl, ev.step fun dx S1 L1 H1 x1 r1 ev1 x n1 => ?_⟩
  refine ⟨L1, σd, S1, r1, sl.ext rp x1, ev1.step fun dy S2 L2 H2 x2 r2 ev2 y n2 => ?_⟩
  exact hs E L2 S2 H2 x y dx dy Q r2 (n1.ext r1 x2) n2 ev2
theorem pd_op {op : Operator} {f : D → D → Sto → Out D} (ho : OpD X g (binaryOp op) f) (ha : PE X a (T g E ma)) (hb : PE X b (T g E mb)) : PE X (.BinOp a op b pos) (T g E (eOp f ma mb)) := by
  obtain ⟨r, hr, hs⟩ := ho
  exact PE.imp (pe_op hr ha hb) fun σ H Q h => tOp_of hs h
theorem pd_cmp {op : CmpOp} {f : D → D → Sto → Out D} (ho : OpD X g (compareOp op) f) (ha : PE X a (T g E ma)) (hb : PE X b (T g E mb)) (hm : behindInMarks op b = false) : PE X (.Compare a [op] [b] pos) (T g E (eOp f ma mb)) := by
  obtain ⟨r, hr, hs⟩ := ho
  exact PE.imp (pe_cmpR hr ha hb hm) fun σ H Q h => tOp_of hs h
/-- the value as a truth -/
def asB : D → DM Bool := fun d _ S => match d with
  | .pd (.bool b) => .ok b S
  | _ => .stuck
def eTest (m : DM D) : DM Bool := mBind m asB
theorem asB_ok {d : D} {v : V} {Q : Bool → Hp → Prop} (r : RepS g L S H) (dn : Den g L H d v) (ev : Ev g E L H (asB d σd S) (PB Q)) : ∃ k, v = .bl k ∧ Q k H := by
  unfold asB at ev
  split at ev
  · rename_i b
    cases dn with
    | pd dn =>
      cases dn
      exact ⟨b, rfl, ev.ok r⟩
  · exact ev.elim
theorem pt_cmpD {op : CmpOp} {f : D → D → Sto → Out D} (ho : OpD X g (compareOp op) f) (ha : PE X a (T g E ma)) (hb : PE X b (T g E mb)) (hm : behindInMarks op b = false) : PT X (.Compare a [op] [b] pos) (TB g E (eTest (eOp f ma mb))) := by
  obtain ⟨r, hr, hs⟩ := ho
  refine PT.imp (pt_cmpR hr ha hb hm) fun σ H Q h => ?_
  obtain ⟨L, σd, S, rp, sl, ev⟩ := h
  refine tOp_of (Q := fun x H' => ∃ k, x = .bl k ∧ Q k H') hs ⟨L, σd, S, rp, sl, ev.step fun d S' L' H' x r' ev' v dn => ?_⟩
  exact asB_ok r' dn ev'
end
end DL
end
section
namespace DL
open PySem PySem.Spec PyProof.Rows L2

/-! ### views -/
def pdL : List D → Option (List PyData)
  | [] => some []
  | .pd x :: r => (pdL r).map (x :: ·)
  | _ :: _ => none
def asL (S : Sto) : D → Option (List D)
  | .pd (.list xs) => some (xs.map .pd)
  | .ref n => match S[n]? with
    | some (.lst xs) => some xs
    | _ => none
  | _ => none
def asT : D → Option (List PyData)
  | .pd (.tuple xs) => some xs
  | _ => none
def asQ (S : Sto) (d : D) : Option (List D) := match d with
  | .pd (.tuple xs) => some (xs.map .pd)
  | d => asL S d
def view (S : Sto) : D → Option PyData
  | .pd x => some x
  | .ref n => match S[n]? with
    | some (.lst xs) => (pdL xs).map .list
    | _ => none
  | .glob _ => none
  | .xt _ => none
  | .raw _ => none
@[simp] theorem pdL_map : ∀ xs : List PyData, pdL (xs.map .pd) = some xs
  | [] => rfl
  | x :: xs => by rw [List.map_cons, pdL, pdL_map xs]; rfl
section
variable {g : G} {E : WX} {L L' : List Addr} {H H' : Hp} {S S' : Sto} {σd : Sl} {σ : St} {v : V} {d : D}
theorem den_int {i : Int} (h : Den g L H (.pd (.int i)) v) : v = .int i := by cases h with | pd h => cases h; rfl
theorem den_bl {i : Bool} (h : Den g L H (.pd (.bool i)) v) : v = .bl i := by cases h with | pd h => cases h; rfl
theorem den_str {i : Str} (h : Den g L H (.pd (.str i)) v) : v = .str i := by cases h with | pd h => cases h; rfl
theorem den_non (h : Den g L H (.pd .none) v) : v = .non := by cases h with | pd h => cases h; rfl
theorem den_tup {ds : List PyData} (h : Den g L H (.pd (.tuple ds)) v) : ∃ a vs, v = .ref a ∧ SqT g.K H a vs ∧ DzAll g.K (g.wr L) H vs ds := by
  cases h with | pd h => cases h with | tup a b => exact ⟨_, _, rfl, a, b⟩
theorem den_lst {ds : List PyData} (h : Den g L H (.pd (.list ds)) v) : ∃ a vs, v = .ref a ∧ Rd H a (.lst vs) ∧ DzAll g.K (g.wr L) H vs ds := by
  cases h with | pd h => cases h with | lst n a b => exact ⟨_, _, rfl, a, b⟩
theorem DzAll.dens : ∀ {ds : List PyData} {vs : List V}, DzAll g.K (g.wr L) H vs ds → Dens g L H (ds.map .pd) vs
  | _, _, .nil => .nil
  | _, _, .cons h1 h2 => .cons (.pd h1) (DzAll.dens h2)
theorem dens_dz : ∀ {ds : List PyData} {vs : List V}, Dens g L H (ds.map .pd) vs → DzAll g.K (g.wr L) H vs ds
  | [], _, h => by cases h; exact .nil
  | d :: ds, _, h => by
    cases h with
    | cons h1 h2 => cases h1 with | pd h1 => exact .cons h1 (dens_dz h2)
theorem pdL_eq : ∀ {ds : List D} {xs : List PyData}, pdL ds = some xs → ds = xs.map .pd
  | [], xs, h => by cases h; rfl
  | .pd x :: r, xs, h => by
    rw [pdL] at h
    cases e : pdL r with
    | none => rw [e] at h; cases h
    | some ys =>
      rw [e] at h
      cases h
      rw [List.map_cons, pdL_eq e]
  | .ref n :: r, xs, h => by cases h
  | .glob n :: r, xs, h => by cases h
  | .xt n :: r, xs, h => by cases h
  | .raw n :: r, xs, h => by cases h
theorem asL_ok (r : RepS g L S H) (dn : Den g L H d v) {xs : List D} (e : asL S d = some xs) : ∃ a vs, v = .ref a ∧ Rd H a (.lst vs) ∧ Dens g L H xs vs := by
  unfold asL at e
  split at e
  · cases e
    obtain ⟨a, vs, rfl, rd, dz⟩ := den_lst dn
    exact ⟨a, vs, rfl, rd, dz.dens⟩
  · rename_i n
    cases dn with
    | ref hn =>
      split at e
      · rename_i xs' hs
        cases e
        obtain ⟨a, ha, od⟩ := r.ob hs
        rw [hn] at ha
        cases ha
        cases od with
        | lst q ds => exact ⟨_, _, rfl, .inl q, ds⟩
      · cases e
  · cases e
theorem asT_ok {xs : List PyData} (dn : Den g L H d v) (e : asT d = some xs) : ∃ a vs, v = .ref a ∧ SqT g.K H a vs ∧ DzAll g.K (g.wr L) H vs xs := by
  unfold asT at e
  split at e
  · cases e
    exact den_tup dn
  · cases e
theorem asQ_ok (r : RepS g L S H) (dn : Den g L H d v) {xs : List D} (e : asQ S d = some xs) : ∃ a vs, v = .ref a ∧ (SqL g.K H a vs ∨ SqT g.K H a vs) ∧ Dens g L H xs vs := by
  unfold asQ at e
  split at e
  · cases e
    obtain ⟨a, vs, rfl, rd, dz⟩ := den_tup dn
    exact ⟨a, vs, rfl, .inr rd, dz.dens⟩
  · obtain ⟨a, vs, rfl, rd, dz⟩ := asL_ok r dn e
    exact ⟨a, vs, rfl, .inl (.inl rd), dz⟩
mutual
theorem Dz.dp {K : PySem.W.Frag} {W : Addr → Prop} : ∀ {d : PyData} {v : V}, Dz K W H v d → d.hasDict = false → Dp K H v d
  | _, _, .non, _ => .non
  | _, _, .bl b, _ => .bl b
  | _, _, .int b, _ => .int b
  | _, _, .str b, _ => .str b
  | _, _, .lst _ r ha, h => .lst (.inl r) (DzAll.dp ha (by simpa [PyData.hasDict] using h))
  | _, _, .tup r ha, h => .tup r (DzAll.dp ha (by simpa [PyData.hasDict] using h))
  | _, _, .dct _ _ _ _, h => by simp [PyData.hasDict] at h
theorem DzAll.dp {K : PySem.W.Frag} {W : Addr → Prop} : ∀ {ds : List PyData} {vs : List V}, DzAll K W H vs ds → PyData.hasDictAll ds = false → DpAll K H vs ds
  | _, _, .nil, _ => .nil
  | _, _, .cons h1 h2, h => by
    rw [PyData.hasDictAll, Bool.or_eq_false_iff] at h
    exact .cons (Dz.dp h1 h.1) (DzAll.dp h2 h.2)
end
theorem view_dz (r : RepS g L S H) (dn : Den g L H d v) {x : PyData} (e : view S d = some x) (nd : x.hasDict = false) : Dp g.K H v x := by
  unfold view at e
  split at e
  · cases e
    cases dn with | pd h => exact h.dp nd
  · rename_i n
    cases dn with
    | ref hn =>
      split at e
      · rename_i xs hs
        cases e2 : pdL xs with
        | none => rw [e2] at e; cases e
        | some ys =>
          rw [e2] at e
          cases e
          obtain ⟨a, ha, od⟩ := r.ob hs
          rw [hn] at ha
          cases ha
          cases od with
          | lst q ds =>
            rw [pdL_eq e2] at ds
            exact .lst (.inl (.inl q)) (DzAll.dp (dens_dz ds) (by simpa [PyData.hasDict] using nd))
      · cases e
  · cases e
  · cases e
  · cases e
/-! ### ends -/
theorem fin_val {Q : VK} (r : RepS g L S H) (ev : Ev g E L H (.ok d S) (PV g Q)) (dn : Den g L H d v) : Q v H := ev.ok r v dn
theorem DzAll.new {p : Addr} {o : HO} (r : RepS g L S H) (n : H p = none) {ds : List PyData} {vs : List V} (z : DzAll g.K (g.wr L) H vs ds) : DzAll g.K (g.wr L) (upd H p o) vs ds := z.keep (kp r (Ext.new1 n))
theorem fin_tup {Q : VK} {ds : List PyData} {vs : List V} (r : RepS g L S H) (ev : Ev g E L H (.ok (.tup ds) S) (PV g Q)) (z : DzAll g.K (g.wr L) H vs ds) : ∀ p, H p = none → Q (.ref p) (upd H p (.tup vs)) := fun p n =>
  ev L _ (Ext.new1 n) (r.new1 n) _ (.pd (.tup (.inl (.inl upd_same)) (z.new r n)))
theorem fin_lst {Q : VK} {ds : List PyData} {vs : List V} (r : RepS g L S H) (ev : Ev g E L H (.ok (.lst ds) S) (PV g Q)) (z : DzAll g.K (g.wr L) H vs ds) : ∀ p, H p = none → Q (.ref p) (upd H p (.lst vs)) := fun p n =>
  ev L _ (Ext.new1 n) (r.new1 n) _ (.pd (.lst (r.free n) (.inl upd_same) (z.new r n)))
/-- a new object of the store -/
theorem fin_lstM {Q : VK} {ds : List D} {vs : List V} (r : RepS g L S H) (ev : Ev g E L H (.ok (.ref S.length) (S ++ [.lst ds])) (PV g Q)) (z : Dens g L H ds vs) : ∀ p, H p = none → Q (.ref p) (upd H p (.lst vs)) := fun p n => by
  have hl : S.length = L.length := Paired.len r.obs
  exact ev _ _ (Ext.newM n) (r.newM n (.lst upd_same (z.ext r (Ext.newM n))) (r.h0 n)) _ (.ref (by rw [hl]; simp))
theorem Dens.app {ds es : List D} {vs ws : List V} (a : Dens g L H ds vs) (b : Dens g L H es ws) : Dens g L H (ds ++ es) (vs ++ ws) := Paired.app a b
theorem DzAll.app {K : PySem.W.Frag} {W : Addr → Prop} : ∀ {ds es : List PyData} {vs ws : List V}, DzAll K W H vs ds → DzAll K W H ws es → DzAll K W H (vs ++ ws) (ds ++ es)
  | _, _, _, _, .nil, h => h
  | _, _, _, _, .cons r t, h => .cons r (DzAll.app t h)
theorem DzAll.len {K : PySem.W.Frag} {W : Addr → Prop} : ∀ {ds : List PyData} {vs : List V}, DzAll K W H vs ds → vs.length = ds.length
  | _, _, .nil => rfl
  | _, _, .cons _ t => by rw [List.length_cons, List.length_cons, DzAll.len t]
theorem DzAll.get {K : PySem.W.Frag} {W : Addr → Prop} : ∀ {ds : List PyData} {vs : List V}, DzAll K W H vs ds → ∀ {i : Nat} {d : PyData}, ds[i]? = some d → ∃ v, vs[i]? = some v ∧ Dz K W H v d
  | _, _, .nil, i, _, h => by simp at h
  | _, _, .cons r t, 0, _, h => by
    simp at h; subst h
    exact ⟨_, by simp, r⟩
  | _, _, .cons r t, i + 1, _, h => by
    obtain ⟨b, e, f⟩ := DzAll.get t (i := i) (by simpa using h)
    exact ⟨b, by simpa using e, f⟩
theorem DzAll.drop {K : PySem.W.Frag} {W : Addr → Prop} : ∀ {ds : List PyData} {vs : List V} (n : Nat), DzAll K W H vs ds → DzAll K W H (vs.drop n) (ds.drop n)
  | _, _, 0, h => h
  | _, _, _ + 1, .nil => .nil
  | _, _, n + 1, .cons _ t => DzAll.drop n t
theorem DzAll.take {K : PySem.W.Frag} {W : Addr → Prop} : ∀ {ds : List PyData} {vs : List V} (n : Nat), DzAll K W H vs ds → DzAll K W H (vs.take n) (ds.take n)
  | _, _, 0, _ => .nil
  | _, _, _ + 1, .nil => .nil
  | _, _, n + 1, .cons r t => .cons r (DzAll.take n t)
theorem DzAll.rev {K : PySem.W.Frag} {W : Addr → Prop} : ∀ {ds : List PyData} {vs : List V}, DzAll K W H vs ds → DzAll K W H vs.reverse ds.reverse
  | _, _, .nil => .nil
  | _, _, .cons r t => by rw [List.reverse_cons, List.reverse_cons]; exact (DzAll.rev t).app (.cons r .nil)
theorem DzAll.rep {K : PySem.W.Frag} {W : Addr → Prop} {ds : List PyData} {vs : List V} (h : DzAll K W H vs ds) : ∀ k : Nat, DzAll K W H (List.replicate k vs).flatten (List.replicate k ds).flatten
  | 0 => .nil
  | k + 1 => by rw [List.replicate_succ, List.replicate_succ, List.flatten_cons, List.flatten_cons]; exact h.app (DzAll.rep h k)

/-! ### operations by values -/
/-- a two-place operation, by data -/
def OpX (X : Cx) (g : G) (f : Value → Value → Sem Value) (op : D → D → Sto → Out D) : Prop :=
  ∀ E : WX, OpR X f (fun x y H Q => ∃ L S dx dy, RepS g L S H ∧ Den g L H dx x ∧ Den g L H dy y ∧ Ev g E L H (op dx dy S) (PV g Q))
theorem OpX.has {X : Cx} {f : Value → Value → Sem Value} {op : D → D → Sto → Out D} (h : OpX X g f op) (E : WX) : ∃ r : R2, OpR X f r ∧ ∀ L S H x y dx dy Q, RepS g L S H → Den g L H dx x → Den g L H dy y → Ev g E L H (op dx dy S) (PV g Q) → r x y H Q :=
  ⟨_, h E, fun L S H x y dx dy Q r a b e => ⟨L, S, dx, dy, r, a, b, e⟩⟩
variable {X : Cx} {a b c : Expr} {ma mb mc : DM D} {pos : Pos}
theorem tOpX_of {op : D → D → Sto → Out D} {r : R2} {Q : VK}
    (hs : ∀ L S H x y dx dy Q, RepS g L S H → Den g L H dx x → Den g L H dy y → Ev g E L H (op dx dy S) (PV g Q) → r x y H Q) (h : T g E (eOp op ma mb) σ H Q) : tOp r (T g E ma) (T g E mb) σ H Q := by
  obtain ⟨L, σd, S, rp, sl, ev⟩ := h
  refine ⟨L, σd, S, rp, sl, ev.step fun dx S1 L1 H1 x1 r1 ev1 x n1 => ?_⟩
  refine ⟨L1, σd, S1, r1, sl.ext rp x1, ev1.step fun dy S2 L2 H2 x2 r2 ev2 y n2 => ?_⟩
  exact hs L2 S2 H2 x y dx dy Q r2 (n1.ext r1 x2) n2 ev2
theorem px_op {op : Operator} {f : D → D → Sto → Out D} (ho : OpX X g (binaryOp op) f) (ha : PE X a (T g E ma)) (hb : PE X b (T g E mb)) : PE X (.BinOp a op b pos) (T g E (eOp f ma mb)) := by
  obtain ⟨r, hr, hs⟩ := OpX.has ho E
  exact PE.imp (pe_op hr ha hb) fun σ H Q h => tOpX_of hs h
theorem px_cmp {op : CmpOp} {f : D → D → Sto → Out D} (ho : OpX X g (compareOp op) f) (ha : PE X a (T g E ma)) (hb : PE X b (T g E mb)) (hm : behindInMarks op b = false) : PE X (.Compare a [op] [b] pos) (T g E (eOp f ma mb)) := by
  obtain ⟨r, hr, hs⟩ := OpX.has ho E
  exact PE.imp (pe_cmpR hr ha hb hm) fun σ H Q h => tOpX_of hs h
theorem pt_cmpX {op : CmpOp} {f : D → D → Sto → Out D} (ho : OpX X g (compareOp op) f) (ha : PE X a (T g E ma)) (hb : PE X b (T g E mb)) (hm : behindInMarks op b = false) : PT X (.Compare a [op] [b] pos) (TB g E (eTest (eOp f ma mb))) := by
  obtain ⟨r, hr, hs⟩ := OpX.has ho E
  refine PT.imp (pt_cmpR hr ha hb hm) fun σ H Q h => ?_
  obtain ⟨L, σd, S, rp, sl, ev⟩ := h
  refine tOpX_of (Q := fun x H' => ∃ k, x = .bl k ∧ Q k H') hs ⟨L, σd, S, rp, sl, ev.step fun d S' L' H' x r' ev' v dn => ?_⟩
  exact asB_ok r' dn ev'

/-! lists that are read -/
theorem _root_.L2.Inv.lstR {pins : List (Addr × Obj)} {σ : L2.St} {H : Hp} {s : Shared} {l : Addr} {xs : List V} (I : Inv X pins σ H s) (h : Rd H l (.lst xs)) : xs.length ≤ sizeLine ∧ ∃ (its : List Value) (n : Nat), Vals xs its ∧ xs.length = its.length ∧ s.heap.get? l = some { cls := .type "list", data := .seq its.toArray n } := by
  obtain ⟨z, its, n, r, e⟩ := h.ok I.hok
  exact ⟨z, its, n, r, r.length, e⟩
def rCatR : R2 := fun x y H Q => ∃ l b xs zs, x = .ref l ∧ y = .ref b ∧ Rd H l (.lst xs) ∧ Rd H b (.lst zs) ∧ xs.length + zs.length ≤ sizeLine ∧ ∀ p, H p = none → Q (.ref p) (upd H p (.lst (xs ++ zs)))
theorem op_catR : OpR X (binaryOp .Add) rCatR := by
  intro pins s σ H x y v u Q I rx ry h
  obtain ⟨l, b, xs, zs, rfl, rfl, hH, hB, hz, q⟩ := h
  cases rx
  cases ry
  obtain ⟨z, its, n, r, hl, e⟩ := I.lstR hH
  obtain ⟨z2, its2, n2, r2, hl2, e2⟩ := I.lstR hB
  refine PySem.P.add_list e e2 ?_ (by rw [List.size_toArray, List.size_toArray]; omega)
  have ea : its.toArray ++ its2.toArray = (its ++ its2).toArray := by simp
  rw [ea]
  exact ⟨.ref _, _, I.lnew (t' := s.toks) (r.append r2) (by rw [List.length_append]; omega), rfl, q _ I.fresh⟩
def rRepR : R2 := fun x y H Q => ∃ l k xs, x = .ref l ∧ y = .int k ∧ Rd H l (.lst xs) ∧ -(2 ^ 63) ≤ k ∧ k < 2 ^ 63 ∧ xs.length * k.toNat ≤ sizeLine ∧
  ∀ p, H p = none → Q (.ref p) (upd H p (.lst (List.replicate k.toNat xs).flatten))
theorem op_repR : OpR X (binaryOp .Mult) rRepR := by
  intro pins s σ H x y v u Q I rx ry h
  obtain ⟨l, k, xs, rfl, rfl, hH, h1, h2, hz, q⟩ := h
  cases rx
  obtain ⟨t, rfl⟩ := ry
  obtain ⟨z, its, n, r, hl, e⟩ := I.lstR hH
  have hlen : its.toArray.size * k.toNat ≤ sizeLine := by rw [List.size_toArray, ← hl]; exact hz
  have hcap : ¬ its.toArray.size * k.toNat > (2 ^ 63 - 1) / 8 := by
    have : (sizeLine : Nat) ≤ (2 ^ 63 - 1) / 8 := by decide
    omega
  have hfit : ¬ (!Builtin.List.listFitsIndex k) = true := by
    rw [fitsIndex_both h1 h2]
    exact Bool.false_ne_true
  have hlong : ¬ Builtin.List.listTooLong (its.toArray.size * k.toNat) = true := by
    rw [notLongL hlen]
    exact Bool.false_ne_true
  have hnew : List.foldl (fun x1 x2 => x1 ++ x2) #[] (List.replicate (if its.toArray.isEmpty = true then 0 else k.toNat) its.toArray) = (List.replicate k.toNat its).flatten.toArray := by
    have f0 : ∀ m : Nat, List.foldl (fun x1 x2 => x1 ++ x2) #[] (List.replicate m its.toArray) = (List.replicate m its).flatten.toArray := fun m => by
      have := foldl_rep its m []
      rw [List.nil_append] at this
      exact this
    rw [f0]
    cases its with
    | nil => simp
    | cons a r' => rw [if_neg (by simp)]
  refine wpAny_binaryOp_repeat_ref (T := "list") (U := "int") (by decide) ⟨_, e, rfl⟩ (fun s' => typeIs_int s' k t) noFill_list_mul F.fills_int_mul F.slot_int_rmul repeat_list F.slot_int_index.lookup
    (call_meets F.slot_int_rmul (typeIs_int s k t) F.entry_int_rmul (F.args_int_rmul_2 _ _) (int___rmul___int_list k t l its.toArray n)
      ⟨e, rfl, ⟨_, e, rfl⟩, call_meets F.slot_list_mul ⟨_, e, rfl⟩ F.entry_list_mul (F.args_list_mul_2 _ _) (AutoListH.list___mul___list_int_3 l its.toArray n k t hfit hcap hlong) ⟨e, ?_⟩⟩)
  rw [hnew]
  exact ⟨.ref _, _, I.lnew (t' := s.toks) (r.rep k.toNat) (by rw [PyProof.Rows.lm_len_rep_flat, Nat.mul_comm]; exact hz), rfl, q _ I.fresh⟩
end
end DL
end
section
namespace DL
open PySem PySem.Spec PyProof.Rows L2

/-! ### what the operations come to -/
def opAdd : D → D → Sto → Out D := fun x y S => match x, y with
  | .pd (.int i), .pd (.int j) => .ok (.int (i + j)) S
  | .pd (.str i), .pd (.str j) => if i.length + j.length ≤ sizeLine then .ok (.str (i ++ j)) S else .stuck
  | .pd (.tuple xs), .pd (.tuple ys) => if xs.length + ys.length ≤ sizeLine then .ok (.tup (xs ++ ys)) S else .stuck
  | x, y => match asL S x, asL S y with
    | some xs, some ys => match pdL (xs ++ ys) with
      | some zs => if zs.length ≤ sizeLine then .ok (.lst zs) S else .stuck
      | none => .stuck
    | _, _ => .stuck
def opSub : D → D → Sto → Out D := fun x y S => match x, y with
  | .pd (.int i), .pd (.int j) => .ok (.int (i - j)) S
  | _, _ => .stuck
def opMul : D → D → Sto → Out D := fun x y S => match x, y with
  | .pd (.int i), .pd (.int j) => if i.natAbs < 2 ^ 64 ∨ j.natAbs < 2 ^ 64 then .ok (.int (i * j)) S else .stuck
  | .pd (.tuple xs), .pd (.int k) => if xs ≠ [] ∧ 2 ≤ k ∧ k ≤ 1000 ∧ xs.length ≤ 1000 then .ok (.tup (List.replicate k.toNat xs).flatten) S else .stuck
  | x, .pd (.int k) => match asL S x with
    | some xs => match pdL xs with
      | some zs => if -(2 ^ 63) ≤ k ∧ k < 2 ^ 63 ∧ zs.length * k.toNat ≤ sizeLine then .ok (.lst (List.replicate k.toNat zs).flatten) S else .stuck
      | none => .stuck
    | none => .stuck
  | _, _ => .stuck
def opMod : D → D → Sto → Out D := fun x y S => match x, y with
  | .pd (.int i), .pd (.int j) => if 0 < j then .ok (.int (i % j)) S else .stuck
  | _, _ => .stuck
def opDiv : D → D → Sto → Out D := fun x y S => match x, y with
  | .pd (.int i), .pd (.int j) => if 0 < j ∧ j < 1073741824 then .ok (.int (i / j)) S else .stuck
  | _, _ => .stuck
def opPow : D → D → Sto → Out D := fun x y S => match x, y with
  | .pd (.int i), .pd (.int j) => if 0 ≤ j ∧ j ≤ 1000 ∧ i.natAbs < 2 ^ 64 then .ok (.int (i ^ j.toNat)) S else .stuck
  | _, _ => .stuck
section
variable {g : G} {E : WX} {L L' : List Addr} {H H' : Hp} {S S' : Sto} {σd : Sl} {σ : St} {v : V} {d : D}
variable {X : Cx}
theorem ox_add (hk : X.K = g.K) : OpX X g (binaryOp .Add) opAdd := by
  intro E pins s σ H x y v u Q I rx ry h
  obtain ⟨L, S, dx, dy, r, nx, ny, ev⟩ := h
  unfold opAdd at ev
  split at ev
  · rename_i i j
    cases den_int nx; cases den_int ny
    exact op_add pins s σ H _ _ v u Q I rx ry ⟨i, j, rfl, rfl, fin_val r ev (.pd (.int _))⟩
  · rename_i i j
    split at ev
    · rename_i hz
      cases den_str nx; cases den_str ny
      exact op_add_str pins s σ H _ _ v u Q I rx ry ⟨i, j, rfl, rfl, hz, fin_val r ev (.pd (.str _))⟩
    · exact ev.elim
  · rename_i xs ys
    split at ev
    · rename_i hz
      obtain ⟨a, vs, rfl, ha, za⟩ := den_tup nx
      obtain ⟨b, ws, rfl, hb, zb⟩ := den_tup ny
      rw [← hk] at ha hb
      refine op_catA pins s σ H _ _ v u Q I rx ry ⟨a, b, vs, ws, rfl, rfl, ha, hb, by rw [za.len, zb.len]; exact hz, fun e => ?_, fun e e2 => ?_, fun _ _ => fin_tup r ev (za.app zb)⟩
      · have : xs = [] := List.length_eq_zero_iff.mp (by rw [← za.len, e]; rfl)
        subst this
        exact fin_val r ev ny
      · have : ys = [] := List.length_eq_zero_iff.mp (by rw [← zb.len, e2]; rfl)
        subst this
        rw [List.append_nil] at ev
        exact fin_val r ev nx
    · exact ev.elim
  · split at ev
    · rename_i xs ys ex ey
      obtain ⟨a, vs, rfl, ha, za⟩ := asL_ok r nx ex
      obtain ⟨b, ws, rfl, hb, zb⟩ := asL_ok r ny ey
      split at ev
      · rename_i zs ez
        split at ev
        · rename_i hz
          have z2 := dens_dz (pdL_eq ez ▸ Dens.app za zb)
          refine op_catR pins s σ H _ _ v u Q I rx ry ⟨a, b, vs, ws, rfl, rfl, ha, hb, ?_, fin_lst r ev z2⟩
          rw [← List.length_append, z2.len]; exact hz
        · exact ev.elim
      · exact ev.elim
    · exact ev.elim
theorem ox_sub : OpX X g (binaryOp .Sub) opSub := by
  intro E pins s σ H x y v u Q I rx ry h
  obtain ⟨L, S, dx, dy, r, nx, ny, ev⟩ := h
  unfold opSub at ev
  split at ev
  · rename_i i j
    cases den_int nx; cases den_int ny
    exact op_sub pins s σ H _ _ v u Q I rx ry ⟨i, j, rfl, rfl, fin_val r ev (.pd (.int _))⟩
  · exact ev.elim
theorem ox_mul (hk : X.K = g.K) : OpX X g (binaryOp .Mult) opMul := by
  intro E pins s σ H x y v u Q I rx ry h
  obtain ⟨L, S, dx, dy, r, nx, ny, ev⟩ := h
  unfold opMul at ev
  split at ev
  · rename_i i j
    split at ev
    · rename_i hz
      cases den_int nx; cases den_int ny
      exact op_mul pins s σ H _ _ v u Q I rx ry ⟨i, j, rfl, rfl, hz.imp (fun h => by omega) (fun h => by omega), fin_val r ev (.pd (.int _))⟩
    · exact ev.elim
  · rename_i xs k
    split at ev
    · rename_i hz
      obtain ⟨a, vs, rfl, ha, za⟩ := den_tup nx
      cases den_int ny
      rw [← hk] at ha
      refine op_repT pins s σ H _ _ v u Q I rx ry ⟨a, k, vs, rfl, rfl, ha, fun e => hz.1 ?_, hz.2.1, hz.2.2.1, by rw [za.len]; exact hz.2.2.2, fin_tup r ev (za.rep _)⟩
      exact List.length_eq_zero_iff.mp (by rw [← za.len, e]; rfl)
    · exact ev.elim
  · rename_i k _ _
    split at ev
    · rename_i xs ex
      obtain ⟨a, vs, rfl, ha, za⟩ := asL_ok r nx ex
      cases den_int ny
      split at ev
      · rename_i zs ez
        split at ev
        · rename_i hz
          have z2 := dens_dz (pdL_eq ez ▸ za)
          exact op_repR pins s σ H _ _ v u Q I rx ry ⟨a, k, vs, rfl, rfl, ha, hz.1, hz.2.1, by rw [z2.len]; exact hz.2.2, fin_lst r ev (z2.rep _)⟩
        · exact ev.elim
      · exact ev.elim
    · exact ev.elim
  · exact ev.elim
theorem ox_mod : OpX X g (binaryOp .Mod) opMod := by
  intro E pins s σ H x y v u Q I rx ry h
  obtain ⟨L, S, dx, dy, r, nx, ny, ev⟩ := h
  unfold opMod at ev
  split at ev
  · rename_i i j
    split at ev
    · rename_i hz
      cases den_int nx; cases den_int ny
      exact op_mod pins s σ H _ _ v u Q I rx ry ⟨i, j, rfl, rfl, hz, fin_val r ev (.pd (.int _))⟩
    · exact ev.elim
  · exact ev.elim
theorem ox_div : OpX X g (binaryOp .FloorDiv) opDiv := by
  intro E pins s σ H x y v u Q I rx ry h
  obtain ⟨L, S, dx, dy, r, nx, ny, ev⟩ := h
  unfold opDiv at ev
  split at ev
  · rename_i i j
    split at ev
    · rename_i hz
      cases den_int nx; cases den_int ny
      exact op_fdiv pins s σ H _ _ v u Q I rx ry ⟨i, j, rfl, rfl, hz, fin_val r ev (.pd (.int _))⟩
    · exact ev.elim
  · exact ev.elim
theorem ox_pow : OpX X g (binaryOp .Pow) opPow := by
  intro E pins s σ H x y v u Q I rx ry h
  obtain ⟨L, S, dx, dy, r, nx, ny, ev⟩ := h
  unfold opPow at ev
  split at ev
  · rename_i i j
    split at ev
    · rename_i hz
      cases den_int nx; cases den_int ny
      exact op_pow pins s σ H _ _ v u Q I rx ry ⟨i, j, rfl, rfl, ⟨hz.1, by omega, hz.2.2⟩, fin_val r ev (.pd (.int _))⟩
    · exact ev.elim
  · exact ev.elim

/-! comparisons -/
def okEq (d : PyData) : Bool := SeqAt.shaped d
def opEq0 (ne : Bool) : D → D → Sto → Out D := fun x y S => match view S x, view S y with
  | some a, some b => if okEq a && okEq b then .ok (.bl (PyData.eqv a b ^^ ne)) S else .stuck
  | _, _ => .stuck
theorem okEq_nd {d : PyData} (h : okEq d = true) : d.hasDict = false := PyData.hasDict_of_canLay d (SeqAt.canLay_of_shaped h)
theorem ox_eq0 (hk : X.K = g.K) (hu : X.A.units + 64 < cLine) : OpX X g (compareOp .Eq) (opEq0 false) := by
  intro E pins s σ H x y v u Q I rx ry h
  obtain ⟨L, S, dx, dy, r, nx, ny, ev⟩ := h
  unfold opEq0 at ev
  split at ev
  · rename_i a b ea eb
    split at ev
    · rename_i hz
      rw [Bool.and_eq_true] at hz
      have h1 := view_dz r nx ea (okEq_nd hz.1)
      have h2 := view_dz r ny eb (okEq_nd hz.2)
      rw [← hk] at h1 h2
      exact op_eqD hu pins s σ H _ _ v u Q I rx ry ⟨a, b, h1, h2, hz.1, hz.2, fin_val r ev (by rw [Bool.xor_false]; exact .pd (.bl _))⟩
    · exact ev.elim
  · exact ev.elim
theorem ox_ne0 (hk : X.K = g.K) (hu : X.A.units + 64 < cLine) : OpX X g (compareOp .NotEq) (opEq0 true) := by
  intro E pins s σ H x y v u Q I rx ry h
  obtain ⟨L, S, dx, dy, r, nx, ny, ev⟩ := h
  unfold opEq0 at ev
  split at ev
  · rename_i a b ea eb
    split at ev
    · rename_i hz
      rw [Bool.and_eq_true] at hz
      have h1 := view_dz r nx ea (okEq_nd hz.1)
      have h2 := view_dz r ny eb (okEq_nd hz.2)
      rw [← hk] at h1 h2
      exact op_neD hu pins s σ H _ _ v u Q I rx ry ⟨a, b, h1, h2, hz.1, hz.2, fin_val r ev (by rw [Bool.xor_true]; exact .pd (.bl _))⟩
    · exact ev.elim
  · exact ev.elim
/-- texts by themselves -/
def opEq (ne : Bool) : D → D → Sto → Out D := fun x y S => match x, y with
  | .pd (.str i), .pd (.str j) => .ok (.bl (decide (i = j) ^^ ne)) S
  | x, y => opEq0 ne x y S
theorem ox_eq (hk : X.K = g.K) (hu : X.A.units + 64 < cLine) : OpX X g (compareOp .Eq) (opEq false) := by
  intro E pins s σ H x y v u Q I rx ry h
  obtain ⟨L, S, dx, dy, r, nx, ny, ev⟩ := h
  unfold opEq at ev
  split at ev
  · rename_i i j
    cases den_str nx; cases den_str ny
    refine op_eq pins s σ H _ _ v u Q I rx ry ⟨rfl, ?_⟩
    have e : decide (V.str i = V.str j) = decide (i = j) := by simp
    rw [e]
    exact fin_val r ev (by rw [Bool.xor_false]; exact .pd (.bl _))
  · exact ox_eq0 hk hu E pins s σ H x y v u Q I rx ry ⟨L, S, _, _, r, nx, ny, ev⟩
theorem ox_ne (hk : X.K = g.K) (hu : X.A.units + 64 < cLine) : OpX X g (compareOp .NotEq) (opEq true) := by
  intro E pins s σ H x y v u Q I rx ry h
  obtain ⟨L, S, dx, dy, r, nx, ny, ev⟩ := h
  unfold opEq at ev
  split at ev
  · rename_i i j
    cases den_str nx; cases den_str ny
    refine op_ne pins s σ H _ _ v u Q I rx ry ⟨rfl, ?_⟩
    have e : decide (V.str i = V.str j) = decide (i = j) := by simp
    rw [e]
    exact fin_val r ev (by rw [Bool.xor_true]; exact .pd (.bl _))
  · exact ox_ne0 hk hu E pins s σ H x y v u Q I rx ry ⟨L, S, _, _, r, nx, ny, ev⟩
/-- two ints, or (for <) two tuples of ints -/
def opCmpI (p : Int → Int → Bool) : D → D → Sto → Out D := fun x y S => match x, y with
  | .pd (.int i), .pd (.int j) => .ok (.bl (p i j)) S
  | _, _ => .stuck
theorem ox_le : OpX X g (compareOp .LtE) (opCmpI fun i j => decide (i ≤ j)) := by
  intro E pins s σ H x y v u Q I rx ry h
  obtain ⟨L, S, dx, dy, r, nx, ny, ev⟩ := h
  unfold opCmpI at ev
  split at ev
  · rename_i i j
    cases den_int nx; cases den_int ny
    exact op_le pins s σ H _ _ v u Q I rx ry ⟨i, j, rfl, rfl, fin_val r ev (.pd (.bl _))⟩
  · exact ev.elim
theorem ox_gt : OpX X g (compareOp .Gt) (opCmpI fun i j => decide (j < i)) := by
  intro E pins s σ H x y v u Q I rx ry h
  obtain ⟨L, S, dx, dy, r, nx, ny, ev⟩ := h
  unfold opCmpI at ev
  split at ev
  · rename_i i j
    cases den_int nx; cases den_int ny
    exact op_gt pins s σ H _ _ v u Q I rx ry ⟨i, j, rfl, rfl, fin_val r ev (.pd (.bl _))⟩
  · exact ev.elim
theorem ox_ge : OpX X g (compareOp .GtE) (opCmpI fun i j => decide (j ≤ i)) := by
  intro E pins s σ H x y v u Q I rx ry h
  obtain ⟨L, S, dx, dy, r, nx, ny, ev⟩ := h
  unfold opCmpI at ev
  split at ev
  · rename_i i j
    cases den_int nx; cases den_int ny
    exact op_ge pins s σ H _ _ v u Q I rx ry ⟨i, j, rfl, rfl, fin_val r ev (.pd (.bl _))⟩
  · exact ev.elim
def intsL : List PyData → Option (List Int)
  | [] => some []
  | .int i :: r => (intsL r).map (i :: ·)
  | _ :: _ => none
theorem intsL_eq : ∀ {ds : List PyData} {xs : List Int}, intsL ds = some xs → ds = xs.map .int
  | [], xs, h => by cases h; rfl
  | .int x :: r, xs, h => by
    rw [intsL] at h
    cases e : intsL r with
    | none => rw [e] at h; cases h
    | some ys => rw [e] at h; cases h; rw [List.map_cons, intsL_eq e]
  | .none :: r, xs, h => by cases h
  | .bool _ :: r, xs, h => by cases h
  | .str _ :: r, xs, h => by cases h
  | .list _ :: r, xs, h => by cases h
  | .tuple _ :: r, xs, h => by cases h
  | .dict _ :: r, xs, h => by cases h
@[simp] theorem intsL_map : ∀ xs : List Int, intsL (xs.map .int) = some xs
  | [] => rfl
  | x :: xs => by rw [List.map_cons, intsL, intsL_map xs]; rfl
theorem DzAll.ints {K : PySem.W.Frag} {W : Addr → Prop} : ∀ {xs : List Int} {vs : List V}, DzAll K W H vs (xs.map .int) → vs = xs.map V.int
  | [], _, h => by cases h; rfl
  | x :: xs, _, h => by
    cases h with
    | cons h1 h2 => cases h1; rw [DzAll.ints h2]; rfl
def opLt : D → D → Sto → Out D := fun x y S => match x, y with
  | .pd (.int i), .pd (.int j) => .ok (.bl (decide (i < j))) S
  | .pd (.tuple xs), .pd (.tuple ys) => match intsL xs, intsL ys with
    | some ns, some ms => .ok (.bl (HT.lexLt ns ms)) S
    | _, _ => .stuck
  | _, _ => .stuck
theorem ox_lt (hk : X.K = g.K) (hu : X.A.units + 64 < cLine) : OpX X g (compareOp .Lt) opLt := by
  intro E pins s σ H x y v u Q I rx ry h
  obtain ⟨L, S, dx, dy, r, nx, ny, ev⟩ := h
  unfold opLt at ev
  split at ev
  · rename_i i j
    cases den_int nx; cases den_int ny
    exact op_lt pins s σ H _ _ v u Q I rx ry ⟨i, j, rfl, rfl, fin_val r ev (.pd (.bl _))⟩
  · split at ev
    · rename_i xs ys _ _ ns ms en em
      obtain ⟨a, vs, rfl, ha, za⟩ := den_tup nx
      obtain ⟨b, ws, rfl, hb, zb⟩ := den_tup ny
      rw [← hk] at ha hb
      rw [intsL_eq en] at za
      rw [intsL_eq em] at zb
      rw [za.ints] at ha
      rw [zb.ints] at hb
      exact op_ltT (by omega) pins s σ H _ _ v u Q I rx ry ⟨a, b, ns, ms, rfl, rfl, ha, hb, fin_val r ev (.pd (.bl _))⟩
    · exact ev.elim
  · exact ev.elim
/-- is, is not: of None, of truths -/
def opIs (ne : Bool) : D → D → Sto → Out D := fun x y S => match y with
  | .pd .none => match x with
    | .pd .none => .ok (.bl (!ne)) S
    | .raw _ => .stuck
    | _ => .ok (.bl ne) S
  | .pd (.bool b) => match x with
    | .pd (.bool a) => .ok (.bl (decide (a = b) ^^ ne)) S
    | _ => .stuck
  | _ => .stuck
theorem den_notnon (h : Den g L H d v) (hn : ∀ (h : d = .pd .none), False) (hr : ∀ w, d = .raw w → False) : v ≠ .non := by
  cases h with
  | pd h =>
    cases h with
    | non => exact (hn rfl).elim
    | _ => intro z; cases z
  | raw => exact (hr _ rfl).elim
  | _ => intro z; cases z
theorem ox_is : OpX X g (compareOp .Is) (opIs false) := by
  intro E pins s σ H x y v u Q I rx ry h
  obtain ⟨L, S, dx, dy, r, nx, ny, ev⟩ := h
  unfold opIs at ev
  split at ev
  · cases den_non ny
    split at ev
    · cases den_non nx
      exact op_isN pins s σ H _ _ v u Q I rx ry ⟨rfl, fin_val r ev (.pd (.bl _))⟩
    · exact ev.elim
    · rename_i hn hr
      have hx := den_notnon nx hn hr
      exact op_isN pins s σ H _ _ v u Q I rx ry ⟨rfl, fin_val r ev (by rw [decide_eq_false hx]; exact .pd (.bl _))⟩
  · split at ev
    · rename_i b _ a
      cases den_bl nx; cases den_bl ny
      exact op_isBl pins s σ H _ _ v u Q I rx ry ⟨a, b, rfl, rfl, fin_val r ev (by rw [Bool.xor_false]; exact .pd (.bl _))⟩
    · exact ev.elim
  · exact ev.elim
theorem ox_isnot : OpX X g (compareOp .IsNot) (opIs true) := by
  intro E pins s σ H x y v u Q I rx ry h
  obtain ⟨L, S, dx, dy, r, nx, ny, ev⟩ := h
  unfold opIs at ev
  split at ev
  · cases den_non ny
    split at ev
    · cases den_non nx
      exact op_notN pins s σ H _ _ v u Q I rx ry ⟨rfl, fin_val r ev (.pd (.bl _))⟩
    · exact ev.elim
    · rename_i hn hr
      have hx := den_notnon nx hn hr
      exact op_notN pins s σ H _ _ v u Q I rx ry ⟨rfl, fin_val r ev (by rw [decide_eq_false hx]; exact .pd (.bl _))⟩
  · split at ev
    · rename_i b _ a
      cases den_bl nx; cases den_bl ny
      exact op_notBl pins s σ H _ _ v u Q I rx ry ⟨a, b, rfl, rfl, fin_val r ev (by rw [Bool.xor_true]; exact .pd (.bl _))⟩
    · exact ev.elim
  · exact ev.elim
/-- in, not in: of a list, of a tuple -/
def opIn (ne : Bool) : D → D → Sto → Out D := fun x y S => match x with
  | .pd a => match y with
    | .pd (.tuple ds) => if okEq a && okEq (.tuple ds) then .ok (.bl ((ds.any fun z => PyData.eqv z a) ^^ ne)) S else .stuck
    | y => match view S y with
      | some (.list ds) => if okEq a && okEq (.list ds) then .ok (.bl ((ds.any fun z => PyData.eqv z a) ^^ ne)) S else .stuck
      | _ => .stuck
  | _ => .stuck
theorem room_in' {A : Around} {d : PyData} {xs : List PyData} (h : okEq d = true) (hu : A.units + 65 < cLine) : A.units + 1 + min (PyData.depthAll xs) d.depth < cLine := by
  have h1 := SeqAt.depth_of_shaped h
  have h2 : min (PyData.depthAll xs) d.depth ≤ d.depth := Nat.min_le_right _ _
  omega
theorem ox_in (hk : X.K = g.K) (hu : X.A.units + 65 < cLine) : OpX X g (compareOp .In) (opIn false) := by
  intro E pins s σ H x y v u Q I rx ry h
  obtain ⟨L, S, dx, dy, r, nx, ny, ev⟩ := h
  unfold opIn at ev
  split at ev
  · split at ev
    · rename_i a _ ds
      split at ev
      · rename_i hz
        rw [Bool.and_eq_true] at hz
        have h1 := view_dz r nx (x := a) rfl (okEq_nd hz.1)
        have h2 := view_dz r ny (x := .tuple ds) rfl (okEq_nd hz.2)
        rw [← hk] at h1 h2
        obtain ⟨as, r1⟩ := Dp.reads I _ x v h1 rx
        obtain ⟨bs, r2⟩ := Dp.reads I _ y u h2 ry
        exact SeqAt.in_tuple_reads r2 r1 (SeqAt.canLay_of_shaped hz.2) (SeqAt.canLay_of_shaped hz.1) (room_in' hz.1 hu) ⟨.bl _, H, I, rfl, fin_val r ev (by rw [Bool.xor_false]; exact .pd (.bl _))⟩
      · exact ev.elim
    · split at ev
      · rename_i a _ _ _ ds e
        split at ev
        · rename_i hz
          rw [Bool.and_eq_true] at hz
          have h1 := view_dz r nx (x := a) rfl (okEq_nd hz.1)
          have h2 := view_dz r ny e (okEq_nd hz.2)
          rw [← hk] at h1 h2
          obtain ⟨as, r1⟩ := Dp.reads I _ x v h1 rx
          obtain ⟨bs, r2⟩ := Dp.reads I _ y u h2 ry
          exact SeqAt.in_list_reads r2 r1 (SeqAt.canLay_of_shaped hz.2) (SeqAt.canLay_of_shaped hz.1) (room_in' hz.1 hu) ⟨.bl _, H, I, rfl, fin_val r ev (by rw [Bool.xor_false]; exact .pd (.bl _))⟩
        · exact ev.elim
      · exact ev.elim
  · exact ev.elim
theorem ox_notin (hk : X.K = g.K) (hu : X.A.units + 65 < cLine) : OpX X g (compareOp .NotIn) (opIn true) := by
  intro E pins s σ H x y v u Q I rx ry h
  obtain ⟨L, S, dx, dy, r, nx, ny, ev⟩ := h
  unfold opIn at ev
  split at ev
  · split at ev
    · rename_i a _ ds
      split at ev
      · rename_i hz
        rw [Bool.and_eq_true] at hz
        have h1 := view_dz r nx (x := a) rfl (okEq_nd hz.1)
        have h2 := view_dz r ny (x := .tuple ds) rfl (okEq_nd hz.2)
        rw [← hk] at h1 h2
        obtain ⟨as, r1⟩ := Dp.reads I _ x v h1 rx
        obtain ⟨bs, r2⟩ := Dp.reads I _ y u h2 ry
        exact SeqAt.notIn_tuple_reads r2 r1 (SeqAt.canLay_of_shaped hz.2) (SeqAt.canLay_of_shaped hz.1) (room_in' hz.1 hu) ⟨.bl _, H, I, rfl, fin_val r ev (by rw [Bool.xor_true]; exact .pd (.bl _))⟩
      · exact ev.elim
    · split at ev
      · rename_i a _ _ _ ds e
        split at ev
        · rename_i hz
          rw [Bool.and_eq_true] at hz
          have h1 := view_dz r nx (x := a) rfl (okEq_nd hz.1)
          have h2 := view_dz r ny e (okEq_nd hz.2)
          rw [← hk] at h1 h2
          obtain ⟨as, r1⟩ := Dp.reads I _ x v h1 rx
          obtain ⟨bs, r2⟩ := Dp.reads I _ y u h2 ry
          exact SeqAt.notIn_list_reads r2 r1 (SeqAt.canLay_of_shaped hz.2) (SeqAt.canLay_of_shaped hz.1) (room_in' hz.1 hu) ⟨.bl _, H, I, rfl, fin_val r ev (by rw [Bool.xor_true]; exact .pd (.bl _))⟩
        · exact ev.elim
      · exact ev.elim
  · exact ev.elim
end
end DL
end
section
namespace DL
open PySem PySem.Spec PyProof.Rows L2
section
variable {g : G} {E : WX} {L L' : List Addr} {H H' : Hp} {S S' : Sto} {σd : Sl} {σ : St} {v : V} {d : D}
variable {X : Cx} {a b c : Expr} {ma mb mc : DM D} {na nb nc : DM Bool} {pos : Pos}

/-! ### chains -/
def eChain (op op' : D → D → Sto → Out D) (a b c : DM D) : DM D := mBind a fun x => mBind b fun y => mBind (mBind (fun _ S => op x y S) asB) fun k => if k then mBind c fun z => fun _ S => op' y z S else eK (.bl false)
theorem chainX_of {op op' : D → D → Sto → Out D} {r r' : R2} {Q : VK}
    (hs : ∀ L S H x y dx dy Q, RepS g L S H → Den g L H dx x → Den g L H dy y → Ev g E L H (op dx dy S) (PV g Q) → r x y H Q)
    (hs' : ∀ L S H x y dx dy Q, RepS g L S H → Den g L H dx x → Den g L H dy y → Ev g E L H (op' dx dy S) (PV g Q) → r' x y H Q) (h : T g E (eChain op op' ma mb mc) σ H Q) : tChain r r' (T g E ma) (T g E mb) (T g E mc) σ H Q := by
  obtain ⟨L, σd, S, rp, sl, ev⟩ := h
  refine ⟨L, σd, S, rp, sl, ev.step fun dx S1 L1 H1 x1 r1 ev1 x n1 => ?_⟩
  refine ⟨L1, σd, S1, r1, sl.ext rp x1, ev1.step fun dy S2 L2 H2 x2 r2 ev2 y n2 => ?_⟩
  have ev2' := Ev.bind ev2
  refine hs L2 S2 H2 x y dx dy _ r2 (n1.ext r1 x2) n2 ((Ev.bind ev2').imp fun dz S3 L3 H3 x3 r3 ev3 z n3 => ?_)
  have sl3 : SlDen g L3 H3 σd σ := ((sl.ext rp x1).ext r1 x2).ext r2 x3
  unfold asB at ev3
  split at ev3
  · rename_i k
    cases den_bl n3
    refine ⟨k, rfl, ?_⟩
    cases k with
    | true =>
      have ev4 : Ev g E L3 H3 (mBind mc (fun z => fun _ S => op' dy z S) σd S3) (PV g Q) := ev3.ok r3
      rw [if_pos rfl]
      refine ⟨L3, σd, S3, r3, sl3, ev4.step fun dw S4 L4 H4 x4 r4 ev5 w n4 => ?_⟩
      exact hs' L4 S4 H4 y w dy dw Q r4 ((n2.ext r2 x3).ext r3 x4) n4 ev5
    | false =>
      have ev4 : Ev g E L3 H3 (.ok (.bl false) S3) (PV g Q) := ev3.ok r3
      rw [if_neg Bool.false_ne_true]
      exact fin_val r3 ev4 (.pd (.bl _))
  · exact ev3.elim
theorem px_chain {op op' : CmpOp} {f f' : D → D → Sto → Out D} (ho : OpX X g (compareOp op) f) (ho' : OpX X g (compareOp op') f') (ha : PE X a (T g E ma)) (hb : PE X b (T g E mb)) (hc : PE X c (T g E mc))
    (hm : lastMarks [op, op'] [b, c] = false := by with_unfolding_all rfl) : PE X (.Compare a [op, op'] [b, c] pos) (T g E (eChain f f' ma mb mc)) := by
  obtain ⟨r, hr, hs⟩ := OpX.has ho E
  obtain ⟨r', hr', hs'⟩ := OpX.has ho' E
  exact PE.imp (pe_chain hr hr' ha hb hc hm) fun σ H Q h => chainX_of hs hs' h
theorem pt_chainX {op op' : CmpOp} {f f' : D → D → Sto → Out D} (ho : OpX X g (compareOp op) f) (ho' : OpX X g (compareOp op') f') (ha : PE X a (T g E ma)) (hb : PE X b (T g E mb)) (hc : PE X c (T g E mc))
    (hm : lastMarks [op, op'] [b, c] = false := by with_unfolding_all rfl) : PT X (.Compare a [op, op'] [b, c] pos) (TB g E (eTest (eChain f f' ma mb mc))) := by
  obtain ⟨r, hr, hs⟩ := OpX.has ho E
  obtain ⟨r', hr', hs'⟩ := OpX.has ho' E
  refine PT.imp (pt_chain hr hr' ha hb hc hm) fun σ H Q h => ?_
  obtain ⟨L, σd, S, rp, sl, ev⟩ := h
  refine chainX_of (Q := fun x H' => ∃ k, x = .bl k ∧ Q k H') hs hs' ⟨L, σd, S, rp, sl, ev.step fun d S' L' H' x r' ev' v dn => ?_⟩
  exact asB_ok r' dn ev'

/-! ### truth -/
def truD (S : Sto) : D → Option Bool
  | .pd .none => some false
  | .pd (.bool b) => some b
  | .pd (.int i) => some (i != 0)
  | .pd (.str x) => if x.length ≤ sizeLine then some (x.length != 0) else none
  | .pd (.list xs) => some (!xs.isEmpty)
  | .pd (.tuple xs) => some (!xs.isEmpty)
  | .pd (.dict kvs) => none
  | .ref n => match S[n]? with
    | some (.lst xs) => some (!xs.isEmpty)
    | some (.dct kvs) => some (!kvs.isEmpty)
    | _ => none
  | .glob _ => none
  | .xt _ => none
  | .raw _ => none
def tru : D → DM Bool := fun d _ S => ofO (truD S d) S
def eTru (m : DM D) : DM Bool := mBind m tru
theorem isEmpty_len {α β : Type} {xs : List α} {ys : List β} (h : xs.length = ys.length) : xs.isEmpty = ys.isEmpty := by
  cases xs <;> cases ys <;> simp at h ⊢
theorem truD_ok (hk : X.K = g.K) (r : RepS g L S H) (dn : Den g L H d v) {k : Bool} (e : truD S d = some k) : TruV X.K v H k := by
  unfold truD at e
  split at e
  · cases e; cases den_non dn; rfl
  · cases e; cases den_bl dn; rfl
  · cases e; cases den_int dn; rfl
  · split at e
    · cases e; cases den_str dn
      rename_i hz
      exact ⟨hz, by
        rename_i z
        cases z.length <;> rfl⟩
    · cases e
  · cases e
    obtain ⟨a, vs, rfl, rd, dz⟩ := den_lst dn
    exact .inl ⟨vs, .inl rd, by rw [isEmpty_len dz.len]⟩
  · cases e
    obtain ⟨a, vs, rfl, rd, dz⟩ := den_tup dn
    exact .inr (.inl ⟨vs, by rw [hk]; exact rd, by rw [isEmpty_len dz.len]⟩)
  · cases e
  · rename_i n
    cases dn with
    | ref hn =>
      split at e
      · rename_i xs hs
        cases e
        obtain ⟨a, ha, od⟩ := r.ob hs
        rw [hn] at ha
        cases ha
        cases od with
        | lst q ds => exact .inl ⟨_, .inl (.inl q), by rw [isEmpty_len (Paired.len ds)]⟩
      · rename_i xs hs
        cases e
        obtain ⟨a, ha, od⟩ := r.ob hs
        rw [hn] at ha
        cases ha
        cases od with
        | dct q ds => exact .inr (.inr ⟨_, q, by rw [isEmpty_len (Paired.len ds)]⟩)
      · cases e
  · cases e
  · cases e
  · cases e
theorem tru_okD (hk : X.K = g.K) (r : RepS g L S H) (dn : Den g L H d v) {Q : Bool → Hp → Prop} (ev : Ev g E L H (tru d σd S) (PB Q)) : ∃ k, TruV X.K v H k ∧ Q k H := by
  unfold tru at ev
  cases e : truD S d with
  | none => rw [e] at ev; exact ev.elim
  | some k => rw [e] at ev; exact ⟨k, truD_ok hk r dn e, ev.ok r⟩
/-- any expression as a test -/
theorem pt_tru (hk : X.K = g.K) (ha : PE X a (T g E ma)) (he : ∀ whole, isTrue a X.env whole = (do let v ← whole; standAt a.pos; holding [v] (truthy v)) := by intro _; rfl) : PT X a (TB g E (eTru ma)) :=
  PT.imp (pt_truth ha he) fun σ H Q ⟨L, σd, S, rp, sl, ev⟩ => ⟨L, σd, S, rp, sl, ev.step fun d S' L' H' x r' ev' v dn => tru_okD hk r' dn ev'⟩
def bNot (m : DM Bool) : DM Bool := mBind m fun k => mRet (!k)
def bAnd (m n : DM Bool) : DM Bool := mBind m fun k => if k then n else mRet false
def bOr (m n : DM Bool) : DM Bool := mBind m fun k => if k then mRet true else n
theorem pt_notX (ha : PT X a (TB g E na)) : PT X (.UnaryOp .Not a pos) (TB g E (bNot na)) :=
  PT.imp (pt_not ha) fun σ H Q ⟨L, σd, S, rp, sl, ev⟩ => ⟨L, σd, S, rp, sl, ev.step fun k S' L' H' x r' ev' => ev'.ok r'⟩
theorem pw_and1X (ha : PT X a (TB g E na)) : PW X (.BoolOp .And [a] pos) (TB g E na) := pw_and1 ha
theorem pw_or1X (ha : PT X a (TB g E na)) : PW X (.BoolOp .Or [a] pos) (TB g E na) := pw_or1 ha
theorem pw_andX {rest : List Expr} (ha : PT X a (TB g E na)) (hb : PW X (.BoolOp .And (b :: rest) pos) (TB g E nb)) : PW X (.BoolOp .And (a :: b :: rest) pos) (TB g E (bAnd na nb)) :=
  PW.imp (pw_and ha hb) fun σ H Q ⟨L, σd, S, rp, sl, ev⟩ => ⟨L, σd, S, rp, sl, ev.step fun k S' L' H' x r' ev' => by
    cases k with
    | true => exact ⟨L', σd, S', r', sl.ext rp x, ev'⟩
    | false => exact Ev.ok (a := false) (P := PB Q) (E := E) ev' r'⟩
theorem pw_orX {rest : List Expr} (ha : PT X a (TB g E na)) (hb : PW X (.BoolOp .Or (b :: rest) pos) (TB g E nb)) : PW X (.BoolOp .Or (a :: b :: rest) pos) (TB g E (bOr na nb)) :=
  PW.imp (pw_or ha hb) fun σ H Q ⟨L, σd, S, rp, sl, ev⟩ => ⟨L, σd, S, rp, sl, ev.step fun k S' L' H' x r' ev' => by
    cases k with
    | false => exact ⟨L', σd, S', r', sl.ext rp x, ev'⟩
    | true => exact Ev.ok (a := true) (P := PB Q) (E := E) ev' r'⟩
/-- and, or, not as values -/
def eNot (m : DM D) : DM D := mBind (eTru m) fun k => eK (.bl (!k))
def eAnd (m n : DM D) : DM D := mBind m fun x => mBind (tru x) fun k => if k then n else eK x
def eOr (m n : DM D) : DM D := mBind m fun x => mBind (tru x) fun k => if k then eK x else n
theorem px_not (hk : X.K = g.K) (ha : PE X a (T g E ma)) : PE X (.UnaryOp .Not a pos) (T g E (eNot ma)) :=
  PE.imp (pe_notT ha) fun σ H Q ⟨L, σd, S, rp, sl, ev⟩ => ⟨L, σd, S, rp, sl, (Ev.bind ev).step fun d S' L' H' x r' ev' v dn => by
    have ev2 : Ev g E L' H' (tru d σd S') (PB fun k H => Q (.bl (!k)) H) := ev'.imp fun k S2 L2 H2 x2 r2 e2 => fin_val r2 e2 (.pd (.bl _))
    exact tru_okD hk r' dn ev2⟩
theorem px_one {op} (ha : PE X a (T g E ma)) : PE X (.BoolOp op [a] pos) (T g E ma) := pe_one ha
theorem px_and (hk : X.K = g.K) {rest : List Expr} (ha : PE X a (T g E ma)) (hb : PE X (.BoolOp .And (b :: rest) pos) (T g E mb)) : PE X (.BoolOp .And (a :: b :: rest) pos) (T g E (eAnd ma mb)) :=
  PE.imp (pe_andT ha hb) fun σ H Q ⟨L, σd, S, rp, sl, ev⟩ => ⟨L, σd, S, rp, sl, ev.step fun d S' L' H' x r' ev' v dn => by
    unfold mBind tru at ev'
    cases e : truD S' d with
    | none => rw [e] at ev'; exact ev'.elim
    | some k =>
      rw [e] at ev'
      refine ⟨k, truD_ok hk r' dn e, ?_⟩
      have ev2 : Ev g E L' H' ((if k = true then mb else eK d) σd S') (PV g Q) := ev'
      cases k with
      | true => exact ⟨L', σd, S', r', sl.ext rp x, ev2⟩
      | false => exact fin_val r' ev2 dn⟩
theorem px_or (hk : X.K = g.K) {rest : List Expr} (ha : PE X a (T g E ma)) (hb : PE X (.BoolOp .Or (b :: rest) pos) (T g E mb)) : PE X (.BoolOp .Or (a :: b :: rest) pos) (T g E (eOr ma mb)) :=
  PE.imp (pe_orT ha hb) fun σ H Q ⟨L, σd, S, rp, sl, ev⟩ => ⟨L, σd, S, rp, sl, ev.step fun d S' L' H' x r' ev' v dn => by
    unfold mBind tru at ev'
    cases e : truD S' d with
    | none => rw [e] at ev'; exact ev'.elim
    | some k =>
      rw [e] at ev'
      refine ⟨k, truD_ok hk r' dn e, ?_⟩
      have ev2 : Ev g E L' H' ((if k = true then eK d else mb) σd S') (PV g Q) := ev'
      cases k with
      | false => exact ⟨L', σd, S', r', sl.ext rp x, ev2⟩
      | true => exact fin_val r' ev2 dn⟩
/-- a if t else b -/
def eIf (t : DM Bool) (m n : DM D) : DM D := mBind t fun k => if k then m else n
theorem px_ifExp (hc : PT X c (TB g E nc)) (ha : PE X a (T g E ma)) (hb : PE X b (T g E mb)) : PE X (.IfExp c a b pos) (T g E (eIf nc ma mb)) :=
  PE.imp (pe_ifExp hc ha hb) fun σ H Q ⟨L, σd, S, rp, sl, ev⟩ => ⟨L, σd, S, rp, sl, ev.step fun k S' L' H' x r' ev' => by
    cases k with
    | true => exact ⟨L', σd, S', r', sl.ext rp x, ev'⟩
    | false => exact ⟨L', σd, S', r', sl.ext rp x, ev'⟩⟩
/-- -a -/
def uNeg : D → Sto → Out D := fun x S => match x with
  | .pd (.int i) => .ok (.int (-i)) S
  | _ => .stuck
def eUn (op : D → Sto → Out D) (m : DM D) : DM D := mBind m fun x => fun _ S => op x S
theorem px_neg (ha : PE X a (T g E ma)) : PE X (.UnaryOp .USub a pos) (T g E (eUn uNeg ma)) :=
  PE.imp (pe_un un_neg ha) fun σ H Q ⟨L, σd, S, rp, sl, ev⟩ => ⟨L, σd, S, rp, sl, ev.step fun d S' L' H' x r' ev' v dn => by
    unfold uNeg at ev'
    split at ev'
    · cases den_int dn
      exact ⟨_, rfl, fin_val r' ev' (.pd (.int _))⟩
    · exact ev'.elim⟩

/-! ### arguments, displays -/
def lNil : DM (List D) := mRet []
def lCons (m : DM D) (n : DM (List D)) : DM (List D) := mBind m fun x => mBind n fun xs => mRet (x :: xs)
variable {es : List Expr} {e : Expr} {ml : DM (List D)}
theorem px_nil : PA X [] (TL g E lNil) := PA.imp pa_nil fun σ H Q ⟨L, σd, S, rp, sl, ev⟩ => ev.ok rp [] .nil
theorem px_cons (ha : PE X e (T g E ma)) (hr : PA X es (TL g E ml)) (hs : starEach (e :: es) X.env = (false, eval e X.env) :: starEach es X.env := by rfl) : PA X (e :: es) (TL g E (lCons ma ml)) :=
  PA.imp (pa_cons ha hr hs) fun σ H Q ⟨L, σd, S, rp, sl, ev⟩ => ⟨L, σd, S, rp, sl, ev.step fun d S' L' H' x r' ev' v dn =>
    ⟨L', σd, S', r', sl.ext rp x, ev'.step fun ds S2 L2 H2 x2 r2 ev2 vs dns => ev2.ok r2 (v :: vs) (.cons (dn.ext r' x2) dns)⟩⟩
def mkTup : List D → DM D := fun ds _ S => match pdL ds with
  | some xs => if xs.length ≤ sizeLine then .ok (.tup xs) S else .stuck
  | none => .stuck
def mkLst : List D → DM D := fun ds _ S => match pdL ds with
  | some xs => if xs.length ≤ sizeLine then .ok (.lst xs) S else .stuck
  | none => .stuck
def mkLstM : List D → DM D := fun ds _ S => if ds.length ≤ sizeLine then .ok (.ref S.length) (S ++ [.lst ds]) else .stuck
def eTup (m : DM (List D)) : DM D := mBind m mkTup
def eLst (m : DM (List D)) : DM D := mBind m mkLst
def eLstM (m : DM (List D)) : DM D := mBind m mkLstM
theorem px_tup {x1} (h : PA X es (TL g E ml)) : PE X (.Tuple es x1 pos) (T g E (eTup ml)) :=
  PE.imp (pe_tup h) fun σ H Q ⟨L, σd, S, rp, sl, ev⟩ => ⟨L, σd, S, rp, sl, ev.step fun ds S' L' H' x r' ev' vs dns => by
    unfold mkTup at ev'
    split at ev'
    · rename_i xs ex
      split at ev'
      · rename_i hz
        have z := dens_dz (pdL_eq ex ▸ dns)
        exact ⟨by rw [z.len]; exact hz, fin_tup r' ev' z⟩
      · exact ev'.elim
    · exact ev'.elim⟩
theorem px_lst (h : PA X es (TL g E ml)) : PE X (.List es pos) (T g E (eLst ml)) :=
  PE.imp (pe_lst h) fun σ H Q ⟨L, σd, S, rp, sl, ev⟩ => ⟨L, σd, S, rp, sl, ev.step fun ds S' L' H' x r' ev' vs dns => by
    unfold mkLst at ev'
    split at ev'
    · rename_i xs ex
      split at ev'
      · rename_i hz
        have z := dens_dz (pdL_eq ex ▸ dns)
        exact ⟨by rw [z.len]; exact hz, fin_lst r' ev' z⟩
      · exact ev'.elim
    · exact ev'.elim⟩
theorem px_lstM (h : PA X es (TL g E ml)) : PE X (.List es pos) (T g E (eLstM ml)) :=
  PE.imp (pe_lst h) fun σ H Q ⟨L, σd, S, rp, sl, ev⟩ => ⟨L, σd, S, rp, sl, ev.step fun ds S' L' H' x r' ev' vs dns => by
    unfold mkLstM at ev'
    split at ev'
    · rename_i hz
      exact ⟨by rw [← Paired.len dns]; exact hz, fin_lstM r' ev' dns⟩
    · exact ev'.elim⟩

/-! ### subscripts, slices -/
def opIx : D → D → Sto → Out D := fun x y S => match x, y with
  | .pd (.str z), .pd (.int i) => if z.length ≤ sizeLine then (match atI z.cps.toList i with
    | some c => .ok (.str ⟨#[c]⟩) S
    | none => .stuck) else .stuck
  | x, .pd (.int i) => match asQ S x with
    | some xs => ofO (atI xs i) S
    | none => .stuck
  | _, _ => .stuck
theorem paired_atI {ds : List D} {vs : List V} (h : Dens g L H ds vs) {i : Int} (e : atI ds i = some d) : ∃ v, atI vs i = some v ∧ Den g L H d v := by
  unfold atI at e ⊢
  rw [← Paired.len h]
  cases q : ixN ds.length i with
  | none => rw [q] at e; cases e
  | some j =>
    rw [q] at e
    exact Paired.get h e
theorem px_ix (hk : X.K = g.K) (ha : PE X a (T g E ma)) (hb : PE X b (T g E mb)) (hs : PlainIx b := by exact fun _ _ => rfl) : PE X (.Subscript a b pos) (T g E (eOp opIx ma mb)) := by
  refine PE.imp (pe_ix ix_seq ha hb hs) fun σ H Q h => tOpX_of (fun L S H x y dx dy Q r nx ny ev => ?_) h
  unfold opIx at ev
  split at ev
  · rename_i z i
    split at ev
    · rename_i hz
      split at ev
      · rename_i c hc
        cases den_str nx; cases den_int ny
        exact .inr (.inr ⟨z, i, c, rfl, rfl, hz, hc, fin_val r ev (.pd (.str _))⟩)
      · exact ev.elim
    · exact ev.elim
  · rename_i i _
    split at ev
    · rename_i xs ex
      cases den_int ny
      obtain ⟨p, vs, rfl, rd, dn⟩ := asQ_ok r nx ex
      cases q : atI xs i with
      | none => rw [q] at ev; exact ev.elim
      | some d =>
        rw [q] at ev
        obtain ⟨v, ev', dv⟩ := paired_atI dn q
        rw [← hk] at rd
        rcases rd with rd | rd
        · exact .inl ⟨p, vs, i, v, rfl, rfl, rd, ev', fin_val r ev dv⟩
        · exact .inr (.inl ⟨p, vs, i, v, rfl, rfl, rd, ev', fin_val r ev dv⟩)
    · exact ev.elim
  · exact ev.elim
/-- parts of a slice -/
abbrev TOd (g : G) (E : WX) (m : DM (Option Int)) : TO := fun σ H Q => ∃ L σd S, RepS g L S H ∧ SlDen g L H σd σ ∧ Ev g E L H (m σd S) (fun o _ _ H => Q o H)
theorem PO.imp {o : Option Expr} {t t' : TO} (h : PO X o t) (i : ∀ σ H Q, t' σ H Q → t σ H Q) : PO X o t' := ⟨fun p s σ H Q I q => h.run p s σ H Q I (i σ H Q q)⟩
def asI : D → DM (Option Int) := fun d _ S => match d with
  | .pd (.int i) => .ok (some i) S
  | _ => .stuck
theorem po_noneX : PO X none (TOd g E (mRet none)) := PO.imp po_none fun σ H Q ⟨L, σd, S, rp, sl, ev⟩ => ev.ok rp
theorem po_someX (h : PE X e (T g E ma)) : PO X (some e) (TOd g E (mBind ma asI)) :=
  PO.imp (po_some h) fun σ H Q ⟨L, σd, S, rp, sl, ev⟩ => ⟨L, σd, S, rp, sl, ev.step fun d S' L' H' x r' ev' v dn => by
    unfold asI at ev'
    split at ev'
    · cases den_int dn
      exact ⟨_, rfl, ev'.ok r'⟩
    · exact ev'.elim⟩
/-- the items of xs[lo:hi] -/
def cut {α : Type} (xs : List α) (lo hi : Option Int) : List α := (xs.drop (HT.sIx xs.length 0 lo)).take (HT.sIx xs.length xs.length hi - HT.sIx xs.length 0 lo)
def slD (S : Sto) : D → Option Int → Option Int → Out D := fun d lo hi => match d with
  | .pd (.tuple xs) => .ok (.tup (cut xs lo hi)) S
  | d => match asL S d with
    | some xs => match pdL xs with
      | some zs => .ok (.lst (cut zs lo hi)) S
      | none => .stuck
    | none => .stuck
def eSlice (m : DM D) (lo hi : DM (Option Int)) : DM D := mBind m fun d => mBind lo fun l => mBind hi fun u => fun _ S => slD S d l u
theorem cut_dz {K : PySem.W.Frag} {W : Addr → Prop} {ds : List PyData} {vs : List V} (h : DzAll K W H vs ds) (lo hi : Option Int) : DzAll K W H (cutV vs lo hi) (cut ds lo hi) := by
  unfold cutV cut
  rw [h.len]
  exact (h.drop _).take _
theorem cut_whole {α : Type} {xs : List α} {lo hi : Option Int} (h : HT.sIx xs.length 0 lo = 0 ∧ HT.sIx xs.length xs.length hi = xs.length) : cut xs lo hi = xs := by
  unfold cut
  rw [h.1, h.2, List.drop_zero, Nat.sub_zero, List.take_length]
theorem px_sliceT (hk : X.K = g.K) {lo hi : Option Expr} {l u : DM (Option Int)} {p2 : Pos} (ha : PE X a (T g E ma)) (hl : PO X lo (TOd g E l)) (hu : PO X hi (TOd g E u)) : PE X (.Subscript a (.Slice lo hi none p2) pos) (T g E (eSlice ma l u)) :=
  PE.imp (pe_slice (sl_tupA.or sl_list) ha hl hu) fun σ H Q ⟨L, σd, S, rp, sl, ev⟩ => ⟨L, σd, S, rp, sl, ev.step fun d S1 L1 H1 x1 r1 ev1 v dn =>
    ⟨L1, σd, S1, r1, sl.ext rp x1, ev1.step fun lo S2 L2 H2 x2 r2 ev2 => ⟨L2, σd, S2, r2, (sl.ext rp x1).ext r1 x2, ev2.step fun hi S3 L3 H3 x3 r3 ev3 => by
      have n3 := (dn.ext r1 x2).ext r2 x3
      unfold slD at ev3
      split at ev3
      · rename_i xs
        obtain ⟨p, vs, rfl, rd, dz⟩ := den_tup n3
        refine .inl ⟨p, vs, rfl, by rw [hk]; exact rd, fun hw => ?_, fun _ => fin_tup r3 ev3 (cut_dz dz _ _)⟩
        rw [dz.len] at hw
        rw [cut_whole hw] at ev3
        exact fin_val r3 ev3 n3
      · split at ev3
        · rename_i xs ex
          split at ev3
          · rename_i zs ez
            obtain ⟨p, vs, rfl, rd, dn'⟩ := asL_ok r3 n3 ex
            have z := dens_dz (pdL_eq ez ▸ dn')
            exact .inr ⟨p, vs, rfl, .inl rd, fin_lst r3 ev3 (cut_dz z _ _)⟩
          · exact ev3.elim
        · exact ev3.elim⟩⟩⟩
/-- xs[::-1] of a list -/
def eRevL (m : DM D) : DM D := mBind m fun d => fun _ S => match asL S d with
  | some xs => match pdL xs with
    | some zs => .ok (.lst zs.reverse) S
    | none => .stuck
  | none => .stuck
theorem px_revL {k : Nat} {p1 p2 p3 : Pos} (ha : PE X a (T g E ma)) : PE X (.Subscript a (.Slice none none (some (.UnaryOp .USub (.Constant (.int 1) k p1) p2)) p3) pos) (T g E (eRevL ma)) :=
  PE.imp (pe_revL ha) fun σ H Q ⟨L, σd, S, rp, sl, ev⟩ => ⟨L, σd, S, rp, sl, ev.step fun d S' L' H' x r' ev' v dn => by
    cases e : asL S' d with
    | none => simp only [e] at ev'; exact ev'.elim
    | some xs =>
      simp only [e] at ev'
      cases e2 : pdL xs with
      | none => simp only [e2] at ev'; exact ev'.elim
      | some zs =>
        simp only [e2] at ev'
        obtain ⟨p, vs, rfl, rd, dn'⟩ := asL_ok r' dn e
        have z := dens_dz (pdL_eq e2 ▸ dn')
        exact ⟨p, vs, rfl, .inl rd, fin_lst r' ev' z.rev⟩⟩
end
end DL
end
section
namespace DL
open PySem PySem.Spec PyProof.Rows L2

/-! ### defs run where no repr is under way -/
structure RoomG (k : Nat) (A : Around) : Prop where
  rm : Room k A
  gd : A.guards = some []
theorem RoomG.mono {j k : Nat} {A : Around} (r : RoomG k A) (h : j ≤ k) : RoomG j A := ⟨r.rm.mono h, r.gd⟩
theorem RoomG.deeper {k : Nat} {A : Around} (r : RoomG (k + 1) A) (env : Env) : RoomG k (A.deeper env) := ⟨r.rm.deeper env, r.gd⟩
structure FnG (P : Program) (w : World) (K : PySem.W.Frag) (mg : Str → Option Value) (base : Heap) (k : Nat) (f : Addr) (fd : FuncData) (ps : List Str) (sp : Sp) : Prop where
  len : ∀ vs H Q E, sp vs H Q E → vs.length = ps.length
  run : ∀ (A : Around) (outer : List Env) (s : Shared) (H : Hp) (args : Args) (us : List Value) (vs : List V) (Q : VK) (E : XK), RoomG k A → Env0 P w K mg base A outer s H → BindsTo s fd args (ps.zip us) → Vals vs us → sp vs H Q E →
    codeAny (model P w) A (.call (.ref f) args) (CR (L2.CX P w) outer P w H s Q E) s
section
variable {P : Program} {w : World} {K : PySem.W.Frag} {mg : Str → Option Value} {base : Heap}
theorem FnG.mono {j k : Nat} {f : Addr} {fd : FuncData} {ps : List Str} {sp : Sp} (F : FnG P w K mg base j f fd ps sp) (h : j ≤ k) : FnG P w K mg base k f fd ps sp :=
  ⟨F.len, fun A outer s H args us vs Q E hr => F.run A outer s H args us vs Q E (hr.mono h)⟩
theorem Fun.okG {x qual : Str} {st : Stmt} {f : Addr} {fd : FuncData} {N ps : List Str} {k : Nat} {sp : Sp} (F : Fun K x qual st f fd) (S : FnScope N ps (defScope st)) (len : ∀ vs H Q E, sp vs H Q E → vs.length = ps.length)
    (hbody : ∀ (cdv : Value) (A : Around) (outer : List Env) (s : Shared) (H : Hp) (vs : List V) (Q : VK) (E : XK), RoomG k (A.deeper (envOfC qual (defScope st) s.heap.objs.size f cdv)) → sp vs H Q E →
      ∃ t, PSs (cxOf (L2.CX P w) P w K mg base N qual (defScope st) f cdv A outer s H E) (defBody st) t ∧ t { nx := fun _ H' => Q .non H', rt := Q } (start N vs) H) : FnG P w K mg base (k + 1) f fd ps sp := by
  obtain ⟨oc, od, kV, doc, pm, an, cdv, ct, osl, rfl, lk, hcd⟩ := F.ex
  refine ⟨len, fun A outer s H args us vs Q E hr e0 hb r hsp => ?_⟩
  have hl := len _ _ _ _ hsp
  have KX : K.In s.heap := e0.mod.kin.keeps fun b o e => (e0.bs b o e).1
  have lim : s.heap.NoLimit := e0.mod.nolimit.keeps fun b o e => (e0.bs b o e).1
  have hkind : ∀ y ∈ ps.zip us, (defScope st).names.lookup y.1 = some .local ∨ ((defScope st).names.lookup y.1 = some .cell ∧ ((cellsFrom (s.heap.objs.size + 1) (defScope st).names []).lookup y.1).isSome = true) := by
    rintro ⟨n, v⟩ hy
    exact (S.par n (List.of_mem_zip hy).1).elim .inl fun q => .inr ⟨q, PySem.W.cellsFrom_some _ _ _ (.inl q)⟩
  refine codeAny_call_function hr.rm.depth (KX _ _ lk) rfl S.co S.gen rfl (PySem.W.codeRec_of KX hcd) (hb _ _ _ _ (wpAny_newFunctionEnv_cells S.kind hkind fun env he s1 x => ?_))
  subst he
  refine ⟨lim.keeps x.toInCall.keep, codeAny_func ?_⟩
  obtain ⟨t, ht, hq⟩ := hbody cdv A outer s H vs Q E (hr.deeper _) hsp
  have I := inv_start (CX := L2.CX P w) (E := E) S hr.rm.hd e0 hl r x
  refine wpAny_mono (ht.run [] s1 (start N vs) H _ I hq) (fun fl s' hs => ?_) fun e s' hs => hs
  cases fl with
  | ret u =>
    obtain ⟨v, σ', H', J, rv, q⟩ := hs
    exact ⟨v, H', J.os, J.bare, J.base, J.hok, rv, q⟩
  | next =>
    obtain ⟨σ', H', J, q⟩ := hs
    exact ⟨V.non, H', J.os, J.bare, J.base, J.hok, rfl, q⟩
  | brk =>
    obtain ⟨_, _, _, q⟩ := hs
    exact q.elim
  | cont =>
    obtain ⟨_, _, _, q⟩ := hs
    exact q.elim
end
section
variable {X : Cx} {k : Nat} {f : Addr} {fd : FuncData} {ps : List Str} {sp : Sp} {ds : List Value} {E : L2.St → XK} {x : Str} {p pos : Pos} {e : Expr} {es : List Expr} {t : TA}
theorem run_fnG {pins : List (Addr × Obj)} {σ : L2.St} {H : Hp} {s : Shared} {Q : VK} {us : List Value} {vs : List V} (F : FnG X.prog X.w X.K X.mg X.base k f fd ps sp) (hr : RoomG k X.A) (hb : Binds X.K fd ps []) (hx : PassesAt (L2.CX X.prog X.w) X σ (E σ))
    (I : Inv X pins σ H s) (r : Vals vs us) (h : sp vs H Q (E σ)) : wpAny (model X.prog X.w) X.A (call (.ref f) us) (EP X pins σ Q) X.xe s := by
  have hl : (us ++ []).length = ps.length := by rw [List.append_nil, ← r.length]; exact F.len _ _ _ _ h
  have hb' := hb s us I.kIn hl
  rw [List.append_nil] at hb'
  refine wpAny_call (codeAny_mono (F.run X.A X.stack s H ⟨us, []⟩ us vs Q (E σ) hr I.env0 hb' r h) fun r s' hq => ?_)
  match r, hq with
  | .error e, hq => exact hx pins H s e s' I hq
  | .ok (.ret u), hq => exact I.after hq
  | .ok .next, hq => exact False.elim hq
  | .ok .brk, hq => exact False.elim hq
  | .ok .cont, hq => exact False.elim hq
theorem pe_callG (F : FnG X.prog X.w X.K X.mg X.base k f fd ps sp) (hr : RoomG k X.A) (hg : Gl X x) (hm : X.mg x = some (.ref f)) (hk : PySem.W.keepIn X.K (.ref f) = true) (hb : Binds X.K fd ps []) (hx : ∀ σ, PassesAt (L2.CX X.prog X.w) X σ (E σ))
    (ha : PA X (e :: es) t) (hdb : (x == ("__debug__" : Str)) = false := by decide) (he : starEach (e :: es) X.env = (false, eval e X.env) :: starEach es X.env := by rfl) (hpl : (backTo pos (starEach es X.env)).any (·.1) = false := by rfl) :
    PE X (.Call (.Name x p) (e :: es) [] pos) (fun σ H Q => t σ H fun vs H1 => sp vs H1 Q (E σ)) := by
  refine ⟨fun pins s σ H Q I h => ?_⟩
  refine wpAny_Call_Name_kw (ld_glob I hg hm ?_ hdb)
  exact PySem.W.callWith_K (h₀ := X.base) I.ok.mod.kin hk (thn (ha.run pos pins s σ H _ I h) fun us s1 ⟨vs, H1, I1, r, q⟩ => ⟨I1.kIn, run_fnG F hr hb (hx σ) I1 r q⟩) he hpl
end

/-! ### the end: the law called on a script -/
/-- the abstract heap in which nothing but the script is told, as a list that stays -/
def scriptH (a : Addr) (vs : List Value) (ns : List Int) : Hp := fun b => if b = a then some (.frz { cls := .type "list", data := .seq vs.toArray } (.lst (ns.map V.int))) else none
theorem law_callG {P : Program} {w : World} {K : PySem.W.Frag} {mg mb : Str → Option Value} {k : Nat} {fa a : Addr} {fd : FuncData} {x : Str} {sp : Sp} {s₁ : Shared} {vs : List Value} {ns : List Int}
    (KX : K.In s₁.heap) (hns : s₁.heap.Ns mainGlobals mg) (hb : s₁.heap.Ns builtinsNs mb) (hbb : ∀ x : Str, x ≠ "__name__" → mb x = bootBuiltins x) (hlim : s₁.heap.NoLimit) (hg : s₁.gens = #[])
    (ha : s₁.heap.get? a = some { cls := .type "list", data := .seq vs.toArray }) (hi : IntsAre vs ns) (hl : ns.length ≤ sizeLine) (hr : RoomG k callerA)
    (F : ∀ base : Heap, K.In base → base.Ns mainGlobals mg → FnG P w K mg base k fa fd [x] sp) (hbind : ∀ (s : Shared) (u : Value), BindsTo s fd ⟨[u], []⟩ [(x, u)])
    (hKa : K.lookup a = none) (hsp : ∀ H : Hp, Rd H a (.lst (ns.map V.int)) → sp [.ref a] H (fun v _ => v = .bl true) fun _ _ _ => False)
    (hCX : ∀ H e s', L2.CX P w [] H s₁ (fun _ _ _ => False) e s' → False) :
    codeAny (model P w) callerA (.call (.ref fa) ⟨[.ref a], []⟩) (fun r s' => r = .ok (.ret (.bool true)) ∧ OldK s₁.heap s'.heap ∧ s'.os = s₁.os ∧ AllBare s'.gens) s₁ := by
  have rv := vals_ints hi
  have lenV := hi.length
  have core : ∀ H : Hp, Only H → Rd H a (.lst (ns.map V.int)) → HOk P w H s₁.heap → (∀ b, H b ≠ none → b = a ∧ K.lookup b = none) →
      codeAny (model P w) callerA (.call (.ref fa) ⟨[.ref a], []⟩) (fun r s' => r = .ok (.ret (.bool true)) ∧ OldK s₁.heap s'.heap ∧ s'.os = s₁.os ∧ AllBare s'.gens) s₁ := by
    intro H hO hS hok hA
    have notA : ∀ {b : Addr} {o : Obj}, s₁.heap.get? b = some o → (∀ q : H b ≠ none, False) → (hidT s₁.heap H).get? b = some o := fun {b o} e n => hidT_get e (by
      cases q : H b with
      | none => rfl
      | some u => exact (n (by rw [q]; simp)).elim)
    have nsK : ∀ {b : Addr} {m : Str → Option Value}, s₁.heap.Ns b m → (hidT s₁.heap H).Ns b m := by
      rintro b m ⟨o, es, ep, e, d, r⟩
      have hne : H b ≠ none → False := fun q => by
        obtain ⟨rfl, _⟩ := hA b q
        rw [ha] at e; cases e
        have d' : Data.seq vs.toArray _ = Data.dict es ep := d
        cases d'
      exact ⟨o, es, ep, notA e hne, d, r⟩
    have hKb : K.In (hidT s₁.heap H) := fun b o e => notA (KX b o e) fun q => by
      rw [(hA b q).2] at e; cases e
    have hM : Mod K mg (hidT s₁.heap H) := ⟨hKb, nsK hns, ⟨mb, nsK hb, hbb⟩, let ⟨mc, h1, h2⟩ := hlim; ⟨mc, nsK h1, h2⟩⟩
    have e0 : Env0 P w K mg (hidT s₁.heap H) callerA [] s₁ H := ⟨rfl, hM, fun b o e => of_hidT e, Nat.le_of_eq (hidT_size _ _), trivial, fun b hb => absurd (show b ∈ ([] : List Addr) from hb) (by simp), hok, .of_eq hg⟩
    refine codeAny_mono ((F _ hKb (nsK hns)).run callerA [] s₁ H ⟨[.ref a], []⟩ [.ref a] [.ref a] _ _ hr e0 (hbind s₁ (.ref a)) (.cons rfl .nil) (hsp H hS)) fun r s' h => ?_
    match r, h with
    | .error e, h => exact (hCX H e s' h).elim
    | .ok .next, h => exact False.elim h
    | .ok .brk, h => exact False.elim h
    | .ok .cont, h => exact False.elim h
    | .ok (.ret u), h =>
      obtain ⟨v, H', os, bare, un, hok', r', q⟩ := h
      cases (show v = .bl true from q)
      cases (show u = Value.bool true from r')
      refine ⟨rfl, OldK.of_keep fun b o e => ?_, os, bare⟩
      cases q : H b with
      | none => exact un.keep b o e q (by intro z; exact absurd (show b ∈ ([] : List Addr) from z) (by simp)) (by simp)
      | some u =>
        rcases hO b with z | ⟨ob, xs, z⟩
        · rw [q] at z; cases z
        · obtain ⟨e1, _⟩ := hok b _ z
          obtain ⟨e2, _⟩ := hok' b _ (un.frzs b ob _ z)
          rw [e] at e1; cases e1
          exact e2
  refine core (scriptH a vs ns) (fun b => ?_) (.inr ⟨{ cls := .type "list", data := .seq vs.toArray }, if_pos rfl⟩) (fun b u z => ?_) (fun b z => ?_)
  · by_cases hb : b = a
    · exact .inr ⟨_, _, if_pos hb⟩
    · exact .inl (if_neg hb)
  · by_cases hb : b = a
    · have z' := (if_pos hb).symm.trans z
      cases z'
      subst hb
      exact ⟨ha, by rw [List.length_map]; exact hl, vs, _, rv, ha⟩
    · have z' := (if_neg hb).symm.trans z
      cases z'
  · by_cases hb : b = a
    · exact ⟨hb, by rw [hb]; exact hKa⟩
    · exact absurd (if_neg hb) z
/-- no list stands in the written part -/
def noLst (K : PySem.W.Frag) : Bool := K.all fun p => !(match p.2.cls with | .type s => s == "list" | _ => false)
theorem noLst_ok {K : PySem.W.Frag} (h : noLst K = true) {a : Addr} {o : Obj} (e : K.lookup a = some o) : o.cls ≠ .type "list" := by
  unfold noLst at h
  rw [List.all_eq_true] at h
  have m : (a, o) ∈ K := by
    clear h
    induction K with
    | nil => cases e
    | cons p r ih =>
      obtain ⟨b, q⟩ := p
      rw [List.lookup_cons] at e
      split at e
      · rename_i hb
        cases e
        rw [show a = b from by simpa using hb]
        exact List.mem_cons_self
      · exact List.mem_cons_of_mem _ (ih e)
  have := h _ m
  intro hc
  rw [hc] at this
  exact absurd this (by decide)
theorem walk_ofG {l : PySem.W.OpenLaw} {n k : Nat} {q : Program} {loose : List Str} {XP : (Str → Option Value) → Heap → Prop} {YP : World → Heap → Prop} {d : DefRec} {K : Params → PySem.W.Frag} {sp : World → Sp} {x : Str}
    (hn : l.most = some n) (hn2 : n ≤ sizeLine) (hdf : d.params.defaults = []) (hr : RoomG k callerA) (hKL : ∀ w : World, noLst (K w.params) = true)
    (hY : ∀ (w : World) (h : Heap), YP w h → (K w.params).In h)
    (F : ∀ (w : World) (mg : Str → Option Value) (fa : Addr) (h : Heap), (K w.params).In h → h.Ns mainGlobals mg → mg d.name = some (.ref fa) →
      ∃ fd : FuncData, (∀ (s : Shared) (u : Value), BindsTo s fd ⟨[u], []⟩ [(x, u)]) ∧
        ∀ base : Heap, (K w.params).In base → base.Ns mainGlobals mg → FnG l.prog w (K w.params) mg base k fa fd [x] (sp w))
    (hsp : ∀ (w : World) (H : Hp) (a : Addr) (ns : List Int), ns.length ≤ n → Rd H a (.lst (ns.map V.int)) → sp w [.ref a] H (fun v _ => v = .bl true) fun _ _ _ => False)
    (hCX : ∀ (w : World) (H : Hp) (s : Shared) (e : Value) (s' : Shared), L2.CX l.prog w [] H s (fun _ _ _ => False) e s' → False) :
    PySem.W.WalkO q loose XP YP l.row.toRowW d [] (fun f vs => PySem.call f vs) := by
  refine Att.attach_call hn hdf fun w s₀ s₁ mg mb fa o pm cd doc a vs ns G Y ho hd hcd hmg hobj hints hlen hg => ?_
  have KX := hY w _ Y
  obtain ⟨fd, hb, hF⟩ := F w mg fa _ KX G.T.g hmg
  have hKa : (K w.params).lookup a = none := by
    cases e : (K w.params).lookup a with
    | none => rfl
    | some o =>
      have e2 := KX a o e
      rw [hobj] at e2
      cases e2
      exact absurd rfl (noLst_ok (hKL w) e)
  exact law_callG KX G.T.g G.T.b G.T.builtins G.T.nolimit hg hobj hints (Nat.le_trans hlen hn2) hr hF hb hKa (fun H hS => hsp w H a ns hlen hS) fun H e s' => hCX w H s₁ e s'
end DL
end
section
namespace DL
open PySem PySem.Spec PyProof.Rows L2

/-! ### defs -/
def noRef : D → Bool
  | .ref _ => false
  | _ => true
def pdOb : Ob → Bool
  | .lst xs => xs.all noRef
  | .dct kvs => kvs.all fun p => noRef p.2
  | .dtt kvs => kvs.all fun p => noRef p.2
  | .ins _ fs => fs.all fun p => noRef p.2
def refsOf : List D → List Nat
  | [] => []
  | .ref n :: r => n :: refsOf r
  | _ :: r => refsOf r
def renum : Nat → List D → List D
  | _, [] => []
  | k, .ref _ :: r => .ref k :: renum (k + 1) r
  | k, d :: r => d :: renum k r
def obsAt (S : Sto) : List Nat → Option (List Ob)
  | [] => some []
  | n :: r => match S[n]?, obsAt S r with
    | some o, some os => some (o :: os)
    | _, _ => none
def putAll (S : Sto) : List Nat → List Ob → Sto
  | n :: r, o :: os => putAll (S.set n o) r os
  | _, _ => S
abbrev DF := List D → Sto → Out D
def callF (n : Nat) (f : DF) (ds : List D) : DM D := fun σ S => match obsAt S (refsOf ds) with
  | some os => if ds.length = n ∧ (refsOf ds).Nodup ∧ os.all pdOb = true then (match f (renum 0 ds) os with
    | .ok d S' => if S'.length = os.length ∧ noRef d = true ∧ S'.all pdOb = true then .ok d (putAll S (refsOf ds) S') else .stuck
    | .exc e _ S' => if S'.length = os.length ∧ S'.all pdOb = true ∧ (e.fs.all fun p => noRef p.2) = true then .exc e σ (putAll S (refsOf ds) S') else .stuck
    | .stuck => .stuck) else .stuck
  | none => .stuck
/-- what is handed back stands by itself -/
def frz (k : Nat) (S : Sto) : D → Option D
  | .ref n => if k ≤ n then (match S[n]? with
    | some (.lst xs) => (pdL xs).map fun ys => .pd (.list ys)
    | _ => none) else none
  | d => some d
def fin (k : Nat) (d : D) (S : Sto) : Out D := match frz k S d with
  | some d' => if (S.take k).all pdOb = true then .ok d' (S.take k) else .stuck
  | none => .stuck
def startD (n : Nat) (ds : List D) : Sl := ds.map some ++ List.replicate (n - ds.length) none
def runF (n : Nat) (m : DM Fl) : DF := fun ds S => match m (startD n ds) S with
  | .ok (.ret d) S' => fin S.length d S'
  | .ok (.next _) S' => fin S.length .non S'
  | .ok _ _ => .stuck
  | .exc e _ S' => if (S'.take S.length).all pdOb = true ∧ (e.fs.all fun p => noRef p.2) = true then .exc e [] (S'.take S.length) else .stuck
  | .stuck => .stuck

def spM (K : PySem.W.Frag) (mg : Str → Option Value) (n : Nat) (f : DF) : Sp := fun vs H Q E => vs.length = n ∧ ∃ (W : Addr → Prop) (as : List Addr) (ds : List D) (S : Sto),
  RepS ⟨K, mg, W, H, as⟩ as S H ∧ Dens ⟨K, mg, W, H, as⟩ as H ds vs ∧ Ev ⟨K, mg, W, H, as⟩ (fun c x _ H' => E c x H') as H (f ds S) (PV ⟨K, mg, W, H, as⟩ Q)

section
variable {g g' : G} {E : WX} {L L' : List Addr} {H H' : Hp} {S S' : Sto} {σd : Sl} {σ : St} {v : V} {d : D}
mutual
theorem Dz.anti {K : PySem.W.Frag} {W W' : Addr → Prop} (i : ∀ a, W' a → W a) : ∀ {d : PyData} {v : V}, Dz K W H v d → Dz K W' H v d
  | _, _, .non => .non
  | _, _, .bl b => .bl b
  | _, _, .int b => .int b
  | _, _, .str b => .str b
  | _, _, .lst n r ha => .lst (fun w => n (i _ w)) r (DzAll.anti i ha)
  | _, _, .tup r ha => .tup r (DzAll.anti i ha)
  | _, _, .dct n r h1 h2 => .dct (fun w => n (i _ w)) r (DzAll.anti i h1) (DzAll.anti i h2)
theorem DzAll.anti {K : PySem.W.Frag} {W W' : Addr → Prop} (i : ∀ a, W' a → W a) : ∀ {ds : List PyData} {vs : List V}, DzAll K W H vs ds → DzAll K W' H vs ds
  | _, _, .nil => .nil
  | _, _, .cons h1 h2 => .cons (Dz.anti i h1) (DzAll.anti i h2)
end
/-- what holds no references is the same seen from elsewhere -/
theorem Den.move (hK : g'.K = g.K) (hm : g'.mg = g.mg) (i : ∀ a, g'.wr L' a → g.wr L a) (n : noRef d = true) (h : Den g L H d v) : Den g' L' H d v := by
  cases h with
  | pd h => exact .pd (hK ▸ h.anti i)
  | ref h => exact absurd n Bool.false_ne_true
  | glob h => exact .glob (by rw [hm]; exact h)
  | xt e hd z => exact .xt e hd (hK ▸ z.anti i)
  | raw => exact .raw
theorem Dens.move (hK : g'.K = g.K) (hm : g'.mg = g.mg) (i : ∀ a, g'.wr L' a → g.wr L a) : ∀ {ds : List D} {vs : List V}, ds.all noRef = true → Dens g L H ds vs → Dens g' L' H ds vs
  | _, _, _, .nil => .nil
  | _, _, n, .cons h t => by
    rw [List.all_cons, Bool.and_eq_true] at n
    exact .cons (h.move hK hm i n.1) (Dens.move hK hm i n.2 t)
theorem kvmove {κ : Type} (hK : g'.K = g.K) (hm : g'.mg = g.mg) (i : ∀ a, g'.wr L' a → g.wr L a) : ∀ {kvs : List (κ × D)} {ws : List (κ × V)}, (kvs.all fun p => noRef p.2) = true → Paired (fun p q => p.1 = q.1 ∧ Den g L H p.2 q.2) kvs ws → Paired (fun p q => p.1 = q.1 ∧ Den g' L' H p.2 q.2) kvs ws
  | _, _, _, .nil => .nil
  | _, _, n, .cons h t => by
    rw [List.all_cons, Bool.and_eq_true] at n
    exact .cons ⟨h.1, h.2.move hK hm i n.1⟩ (kvmove hK hm i n.2 t)
theorem ObDen.move {ob : Ob} {a : Addr} (hK : g'.K = g.K) (hm : g'.mg = g.mg) (i : ∀ a, g'.wr L' a → g.wr L a) (n : pdOb ob = true) (h : ObDen g L H a ob) : ObDen g' L' H a ob := by
  cases h with
  | lst e d => exact .lst e (d.move hK hm i n)
  | dct e d => exact .dct e (kvmove hK hm i n d)
  | dtt e d => exact .dtt e (kvmove hK hm i n d)
  | ins c e d => exact .ins (by rw [hm]; exact c) e (kvmove hK hm i n d)
theorem ExDen.move {e : Exn} {c : Value} {x : Option Addr} (hK : g'.K = g.K) (hm : g'.mg = g.mg) (i : ∀ a, g'.wr L' a → g.wr L a) (n : (e.fs.all fun p => noRef p.2) = true) (h : ExDen g L H e c x) : ExDen g' L' H e c x := by
  have hc : ∀ {k : ECls}, ClsIs g k c → ClsIs g' k c := fun {k} q => by
    cases k with
    | own x => obtain ⟨C, a, b⟩ := q; exact ⟨C, by rw [hm]; exact a, b⟩
    | bt n => exact q
  cases h with
  | none q e => exact .none (hc q) e
  | some q e d => exact .some (hc q) e (kvmove hK hm i n d)
theorem Paired.takeL {α β : Type} {F : α → β → Prop} : ∀ {l : List α} {l' : List β} (n : Nat), Paired F l l' → Paired F (l.take n) (l'.take n)
  | _, _, 0, _ => .nil
  | _, _, _ + 1, .nil => .nil
  | _, _, n + 1, .cons r t => .cons r (Paired.takeL n t)
theorem Paired.memL {α β : Type} {F F' : α → β → Prop} : ∀ {l : List α} {l' : List β}, Paired F l l' → (∀ a b, a ∈ l → b ∈ l' → F a b → F' a b) → Paired F' l l'
  | _, _, .nil, _ => .nil
  | _, _, .cons r t, f => .cons (f _ _ List.mem_cons_self List.mem_cons_self r) (Paired.memL t fun a b ha hb => f a b (List.mem_cons_of_mem _ ha) (List.mem_cons_of_mem _ hb))
/-- back to the objects handed in -/
theorem RepS.trim (r : RepS g L S H) (n : (S.take g.as.length).all pdOb = true) : RepS g g.as (S.take g.as.length) H where
  nd := r.nd.sublist r.pre.sublist
  pre := List.prefix_refl _
  obs := by
    have h := Paired.takeL g.as.length r.obs
    have e : L.take g.as.length = g.as := by
      obtain ⟨t, rfl⟩ := r.pre
      simp
    rw [e] at h
    refine Paired.memL h fun ob a ho ha q => q.move rfl rfl (fun b w => w.imp id fun z => mem_pre r.pre z) (List.all_eq_true.mp n _ ho)
  fresh := fun a h na => absurd h na
  own := fun a h na => absurd h na
  keep := r.keep
  amb := r.amb
  asW := r.asW
  th0 := r.th0
  tabs := r.tabs
theorem Ext.trim {as : List Addr} (x : Ext g as H L' H') : Ext g as H as H' := ⟨List.prefix_refl _, fun _ h n => absurd h n, x.keep, x.there⟩
theorem startD_sl {ds : List D} {vs : List V} {N : List Str} (h : Dens g L H ds vs) : SlDen g L H (startD N.length ds) (L2.start N vs) := by
  intro i d e
  unfold startD at e
  by_cases hi : i < ds.length
  · rw [List.getElem?_append_left (by simpa using hi), List.getElem?_map] at e
    cases q : ds[i]? with
    | none => rw [q] at e; cases e
    | some d' =>
      rw [q] at e
      cases e
      obtain ⟨v, e2, dn⟩ := Paired.get h q
      refine ⟨v, ?_, dn⟩
      unfold L2.start
      rw [List.getElem?_append_left (by simpa [← Paired.len h] using hi), List.getElem?_map, e2]
      rfl
  · rw [List.getElem?_append_right (by simpa using hi), List.getElem?_replicate] at e
    split at e <;> cases e
theorem frz_ok {as : List Addr} {d' : D} (hg : g.as = as) (r : RepS g L S H) (dn : Den g L H d v) (e : frz as.length S d = some d') : Den g as H d' v := by
  unfold frz at e
  split at e
  · rename_i n
    cases dn with
    | ref hn =>
      rename_i a
      split at e
      · rename_i hk
        split at e
        · rename_i xs hs
          cases q : pdL xs with
          | none => rw [q] at e; cases e
          | some ys =>
            rw [q] at e
            cases e
            obtain ⟨a', ha, od⟩ := r.ob hs
            rw [hn] at ha
            cases ha
            cases od with
            | lst q2 ds =>
              rw [pdL_eq q] at ds
              have hna : a ∉ g.as := by
                intro hm
                rw [hg] at hm
                obtain ⟨j, hj, ej⟩ := List.mem_iff_getElem.mp hm
                obtain ⟨t, ht⟩ := r.pre
                have e1 : L[j]? = some a := by
                  rw [← ht, hg, List.getElem?_append_left hj, List.getElem?_eq_getElem hj, ej]
                have hjl := (List.getElem?_eq_some_iff.mp e1).1
                have hnl := (List.getElem?_eq_some_iff.mp hn).1
                have e2 := (List.getElem?_eq_some_iff.mp e1).2
                have e3 := (List.getElem?_eq_some_iff.mp hn).2
                have := (List.getElem_inj r.nd).mp (e2.trans e3.symm)
                omega
              have hno : ¬ g.wr as a := fun w => w.elim (r.own a (List.mem_of_getElem? hn) hna) fun z => hna (by rw [hg]; exact z)
              refine .pd (.lst hno (.inl q2) ((dens_dz ds).anti fun b w => w.imp id fun z => mem_pre r.pre (by rw [hg]; exact z)))
        · cases e
      · cases e
  · cases e
    rename_i hd
    have n : noRef d = true := by
      cases d with
      | ref n => exact absurd rfl (hd n)
      | _ => rfl
    exact dn.move rfl rfl (fun b w => w.imp id fun z => mem_pre r.pre (by rw [hg]; exact z)) n
end

/-- THE RULE: a def of the text, by its body's outcome -/
theorem Fun.dl {P : Program} {w : World} {K : PySem.W.Frag} {mg : Str → Option Value} {base : Heap} {x qual : Str} {st : Stmt} {f : Addr} {fd : FuncData} {N ps : List Str} {k : Nat} {m : DM Fl} (F : Fun K x qual st f fd) (Sc : FnScope N ps (defScope st))
    (hb : ∀ (cdv : Value) (A : Around) (outer : List Env) (s : Shared) (H : Hp) (E : XK) (W : Addr → Prop) (as : List Addr), RoomG k (A.deeper (envOfC qual (defScope st) s.heap.objs.size f cdv)) →
      PSs (cxOf (L2.CX P w) P w K mg base N qual (defScope st) f cdv A outer s H E) (defBody st) (TSt ⟨K, mg, W, H, as⟩ (fun c d _ H => E c d H) m)) :
    FnG P w K mg base (k + 1) f fd ps (spM K mg ps.length (runF N.length m)) := by
  refine Fun.okG F Sc (fun vs H Q E h => h.1) (fun cdv A outer s H vs Q E hr h => ?_)
  obtain ⟨hl, W, as, ds, S, rp, dn, ev⟩ := h
  refine ⟨_, hb cdv A outer s H E W as hr, as, startD N.length ds, S, rp, startD_sl dn, ?_⟩
  have hS : S.length = as.length := Paired.len rp.obs
  unfold runF at ev
  cases em : m (startD N.length ds) S with
  | ok fl S' =>
    rw [em] at ev
    have done : ∀ d, Ev ⟨K, mg, W, H, as⟩ (fun c x _ H' => E c x H') as H (fin S.length d S') (PV ⟨K, mg, W, H, as⟩ Q) →
        ∀ L' H', Ext ⟨K, mg, W, H, as⟩ as H L' H' → RepS ⟨K, mg, W, H, as⟩ L' S' H' → ∀ v, Den ⟨K, mg, W, H, as⟩ L' H' d v → Q v H' := by
      intro d ev L' H' x r v dn'
      unfold fin at ev
      split at ev
      · rename_i d' ed
        split at ev
        · rename_i hp
          rw [hS] at ev ed hp
          exact ev as H' x.trim (r.trim hp) v (frz_ok rfl r dn' ed)
        · exact ev.elim
      · exact ev.elim
    cases fl with
    | ret d => exact fun L' H' x r v dn' => done d ev L' H' x r v dn'
    | next σ => exact fun L' H' x r σ _ => done .non ev L' H' x r .non (.pd .non)
    | brk σ => exact ev.elim
    | cont σ => exact ev.elim
  | exc e σ S' =>
    rw [em] at ev
    dsimp only at ev
    split at ev
    · rename_i hp
      rw [hS] at ev hp
      intro L' H' c x σ y r sl ex
      exact ev as H' c x [] y.trim (r.trim hp.1) (fun i d z => by simp at z) (ex.move rfl rfl (fun b w => w.imp id fun z => mem_pre r.pre z) hp.2)
    · exact ev.elim
  | stuck => rw [em] at ev; exact ev.elim
end DL
end
section
namespace DL
open PySem PySem.Spec PyProof.Rows L2
section
variable {g g' : G} {E : WX} {L L' : List Addr} {H H' : Hp} {S S' : Sto} {σd : Sl} {σ : St} {v : V} {d : D}
def addrsAt (L : List Addr) : List Nat → List Addr
  | [] => []
  | n :: r => L.getD n 0 :: addrsAt L r
theorem addrsAt_mem : ∀ {idx : List Nat} {a : Addr}, a ∈ addrsAt L idx → (∀ i ∈ idx, i < L.length) → ∃ i ∈ idx, L[i]? = some a
  | [], _, h, _ => by cases h
  | n :: r, a, h, hl => by
    rcases List.mem_cons.mp h with rfl | h
    · refine ⟨n, List.mem_cons_self, ?_⟩
      have := hl n List.mem_cons_self
      simp [List.getD, List.getElem?_eq_getElem this]
    · obtain ⟨i, hi, e⟩ := addrsAt_mem h fun i hi => hl i (List.mem_cons_of_mem _ hi)
      exact ⟨i, List.mem_cons_of_mem _ hi, e⟩
theorem obsAt_lt : ∀ {idx : List Nat} {os : List Ob}, obsAt S idx = some os → ∀ i ∈ idx, i < S.length
  | [], _, _, _, h => by cases h
  | n :: r, os, e, i, h => by
    unfold obsAt at e
    split at e
    · rename_i o os' e1 e2
      rcases List.mem_cons.mp h with rfl | h
      · exact (List.getElem?_eq_some_iff.mp e1).1
      · exact obsAt_lt e2 i h
    · cases e
theorem obsAt_len : ∀ {idx : List Nat} {os : List Ob}, obsAt S idx = some os → os.length = idx.length
  | [], _, e => by cases e; rfl
  | n :: r, os, e => by
    unfold obsAt at e
    split at e
    · rename_i o os' e1 e2
      cases e
      rw [List.length_cons, List.length_cons, obsAt_len e2]
    · cases e
theorem addrsAt_len : ∀ idx : List Nat, (addrsAt L idx).length = idx.length
  | [] => rfl
  | n :: r => by rw [addrsAt, List.length_cons, List.length_cons, addrsAt_len r]
theorem addrsAt_get : ∀ {idx : List Nat} {j n : Nat}, idx[j]? = some n → (addrsAt L idx)[j]? = some (L.getD n 0)
  | [], _, _, h => by simp at h
  | m :: r, 0, n, h => by simp at h; subst h; simp [addrsAt]
  | m :: r, j + 1, n, h => by
    simp at h
    simpa [addrsAt] using addrsAt_get h
theorem addrsAt_nodup (nd : L.Nodup) : ∀ {idx : List Nat}, idx.Nodup → (∀ i ∈ idx, i < L.length) → (addrsAt L idx).Nodup
  | [], _, _ => List.nodup_nil
  | n :: r, h, hl => by
    have h' := List.nodup_cons.mp h
    refine List.nodup_cons.mpr ⟨fun hm => ?_, addrsAt_nodup nd h'.2 fun i hi => hl i (List.mem_cons_of_mem _ hi)⟩
    obtain ⟨i, hi, e⟩ := addrsAt_mem hm fun i hi => hl i (List.mem_cons_of_mem _ hi)
    have hn := hl n List.mem_cons_self
    have e2 : L[n]? = some (L.getD n 0) := by simp [List.getD, List.getElem?_eq_getElem hn]
    have a1 := List.getElem?_eq_some_iff.mp e
    have a2 := List.getElem?_eq_some_iff.mp e2
    have := (List.getElem_inj nd).mp (a1.2.trans a2.2.symm)
    subst this
    exact h'.1 hi
theorem getD_of {n : Nat} {a : Addr} (h : L[n]? = some a) : L.getD n 0 = a := by simp [List.getD, h]
/-- the ground of a callee -/
def G.call (g : G) (L : List Addr) (H : Hp) (idx : List Nat) : G := ⟨g.K, g.mg, g.wr L, H, addrsAt L idx⟩
theorem call_wr {idx : List Nat} (hl : ∀ i ∈ idx, i < L.length) {a : Addr} : (g.call L H idx).wr (addrsAt L idx) a ↔ g.wr L a :=
  ⟨fun w => w.elim id fun h => let ⟨_, _, e⟩ := addrsAt_mem h hl; .inr (List.mem_of_getElem? e), fun w => .inl w⟩
theorem call_obs (r : RepS g L S H) {idx : List Nat} (hl : ∀ i ∈ idx, i < L.length) : ∀ {ix : List Nat} {os : List Ob}, (∀ i ∈ ix, i ∈ idx) → obsAt S ix = some os → os.all pdOb = true →
    Paired (fun ob a => ObDen (g.call L H idx) (addrsAt L idx) H a ob) os (addrsAt L ix)
  | [], _, _, e, _ => by cases e; exact .nil
  | n :: rr, os, hs, e, n' => by
    unfold obsAt at e
    split at e
    · rename_i o os' e1 e2
      cases e
      rw [List.all_cons, Bool.and_eq_true] at n'
      obtain ⟨a, ha, od⟩ := r.ob e1
      refine .cons ?_ (call_obs r hl (fun i hi => hs i (List.mem_cons_of_mem _ hi)) e2 n'.2)
      rw [getD_of ha]
      exact od.move (g := g) (g' := g.call L H idx) rfl rfl (fun b w => (call_wr (g := g) (L := L) (H := H) (idx := idx) hl).mp w) n'.1
    · cases e
theorem call_rep (r : RepS g L S H) {idx : List Nat} {os : List Ob} (nd : idx.Nodup) (e : obsAt S idx = some os) (n : os.all pdOb = true) : RepS (g.call L H idx) (addrsAt L idx) os H := by
  have hl : ∀ i ∈ idx, i < L.length := fun i hi => by rw [← Paired.len r.obs]; exact obsAt_lt e i hi
  exact ⟨addrsAt_nodup r.nd nd hl, List.prefix_refl _, call_obs r hl (fun _ h => h) e n, fun a h na => absurd h na, fun a h na => absurd h na, fun a o q _ _ => q, fun a w => r.wr_there w,
    fun a h => let ⟨_, _, q⟩ := addrsAt_mem h hl; .inr (List.mem_of_getElem? q), fun a o q => ⟨o, q⟩, r.tabs⟩
theorem call_dens (r : RepS g L S H) {idx : List Nat} (hl : ∀ i ∈ idx, i < L.length) : ∀ {ds : List D} {vs : List V} (k : Nat), idx.drop k = refsOf ds → Dens g L H ds vs → Dens (g.call L H idx) (addrsAt L idx) H (renum k ds) vs
  | _, _, _, _, .nil => by unfold renum; exact .nil
  | .ref n :: ds, _, k, e, .cons h t => by
    unfold renum
    unfold refsOf at e
    have hk : idx[k]? = some n := by
      have := congrArg (fun l => l[0]?) e
      simpa [List.getElem?_drop] using this
    cases h with
    | ref hn =>
      refine .cons (.ref ?_) (call_dens r hl (k + 1) ?_ t)
      · rw [addrsAt_get hk, getD_of hn]
      · have := congrArg (List.drop 1) e
        simpa [List.drop_drop, Nat.add_comm] using this
  | .pd x :: ds, _, k, e, .cons h t => by
    unfold renum
    unfold refsOf at e
    exact .cons (h.move (g := g) (g' := g.call L H idx) rfl rfl (fun b w => (call_wr (g := g) (L := L) (H := H) (idx := idx) hl).mp w) rfl) (call_dens r hl k e t)
  | .xt x :: ds, _, k, e, .cons h t => by
    unfold renum
    unfold refsOf at e
    exact .cons (h.move (g := g) (g' := g.call L H idx) rfl rfl (fun b w => (call_wr (g := g) (L := L) (H := H) (idx := idx) hl).mp w) rfl) (call_dens r hl k e t)
  | .raw x :: ds, _, k, e, .cons h t => by
    unfold renum
    unfold refsOf at e
    exact .cons (h.move (g := g) (g' := g.call L H idx) rfl rfl (fun b w => (call_wr (g := g) (L := L) (H := H) (idx := idx) hl).mp w) rfl) (call_dens r hl k e t)
  | .glob x :: ds, _, k, e, .cons h t => by
    unfold renum
    unfold refsOf at e
    exact .cons (h.move (g := g) (g' := g.call L H idx) rfl rfl (fun b w => (call_wr (g := g) (L := L) (H := H) (idx := idx) hl).mp w) rfl) (call_dens r hl k e t)
theorem putAll_length : ∀ {idx : List Nat} {os : List Ob} {S : Sto}, (putAll S idx os).length = S.length
  | [], _, _ => by unfold putAll; rfl
  | n :: r, [], _ => by unfold putAll; rfl
  | n :: r, o :: os, S => by unfold putAll; rw [putAll_length, List.length_set]
theorem putAll_out : ∀ {idx : List Nat} {os : List Ob} {S : Sto} {i : Nat}, i ∉ idx → (putAll S idx os)[i]? = S[i]?
  | [], _, _, _, _ => by unfold putAll; rfl
  | n :: r, [], _, _, _ => by unfold putAll; rfl
  | n :: r, o :: os, S, i, h => by
    unfold putAll
    rw [putAll_out fun z => h (List.mem_cons_of_mem _ z), List.getElem?_set_ne (show n ≠ i from fun z => h (by rw [z]; exact List.mem_cons_self))]
theorem putAll_in : ∀ {idx : List Nat} {os : List Ob} {S : Sto}, idx.Nodup → (∀ i ∈ idx, i < S.length) → ∀ {j n : Nat} {o : Ob}, idx[j]? = some n → os[j]? = some o → (putAll S idx os)[n]? = some o
  | [], _, _, _, _, _, _, _, h, _ => by simp at h
  | m :: r, [], _, _, _, _, _, _, _, h => by simp at h
  | m :: r, o' :: os, S, nd, hl, 0, n, o, h1, h2 => by
    simp at h1 h2
    subst h1; subst h2
    unfold putAll
    have nd' := List.nodup_cons.mp nd
    rw [putAll_out nd'.1, List.getElem?_set_self (hl m List.mem_cons_self)]
  | m :: r, o' :: os, S, nd, hl, j + 1, n, o, h1, h2 => by
    unfold putAll
    have nd' := List.nodup_cons.mp nd
    exact putAll_in nd'.2 (fun i hi => by rw [List.length_set]; exact hl i (List.mem_cons_of_mem _ hi)) (j := j) (by simpa using h1) (by simpa using h2)
theorem prefix_eq {l l' : List Addr} (p : l <+: l') (h : l'.length = l.length) : l' = l := by
  obtain ⟨t, rfl⟩ := p
  have : t = [] := List.length_eq_zero_iff.mp (by rw [List.length_append] at h; omega)
  rw [this, List.append_nil]
theorem paired_of {α β : Type} {F : α → β → Prop} : ∀ {l : List α} {l' : List β}, l.length = l'.length → (∀ (i : Nat) a b, l[i]? = some a → l'[i]? = some b → F a b) → Paired F l l'
  | [], [], _, _ => .nil
  | [], _ :: _, h, _ => by simp at h
  | _ :: _, [], h, _ => by simp at h
  | a :: l, b :: l', h, f => .cons (f 0 a b rfl rfl) (paired_of (by simpa using h) fun i x y e1 e2 => f (i + 1) x y (by simpa using e1) (by simpa using e2))
/-- behind a call: the caller's state -/
theorem call_back (r : RepS g L S H) {idx : List Nat} {os : List Ob} {S2 : Sto} (nd : idx.Nodup) (e : obsAt S idx = some os) (h2 : S2.length = os.length) (n : S2.all pdOb = true)
    {L2 : List Addr} (x : Ext (g.call L H idx) (addrsAt L idx) H L2 H') (r2 : RepS (g.call L H idx) L2 S2 H') : L2 = addrsAt L idx ∧ Ext g L H L H' ∧ RepS g L (putAll S idx S2) H' := by
  have hl : ∀ i ∈ idx, i < L.length := fun i hi => by rw [← Paired.len r.obs]; exact obsAt_lt e i hi
  have hL : L2 = addrsAt L idx := prefix_eq x.pre (by rw [← Paired.len r2.obs, h2, obsAt_len e, addrsAt_len])
  subst hL
  have sub : ∀ a, a ∈ addrsAt L idx → a ∈ L := fun a h => let ⟨_, _, q⟩ := addrsAt_mem h hl; List.mem_of_getElem? q
  have x' : Ext g L H L H' := ⟨List.prefix_refl _, fun _ h n => absurd h n, fun a o q it na => x.keep a o q it fun z => na (sub a z), x.there⟩
  refine ⟨rfl, x', r.nd, r.pre, paired_of (by rw [putAll_length]; exact Paired.len r.obs) fun i ob a e1 e2 => ?_, r.fresh, r.own, fun a o q it na => ?_, fun a w => r2.amb a (.inl w), r.asW, fun a o q => ?_, r2.tabs⟩
  · by_cases hi : i ∈ idx
    · obtain ⟨j, hj, ej⟩ := List.mem_iff_getElem.mp hi
      have ej' : idx[j]? = some i := by rw [List.getElem?_eq_getElem hj, ej]
      have hjS : j < S2.length := by rw [h2, obsAt_len e]; exact hj
      have eo : S2[j]? = some S2[j] := List.getElem?_eq_getElem hjS
      have := putAll_in (S := S) nd (fun i hi => obsAt_lt e i hi) ej' eo
      rw [this] at e1
      obtain ⟨a2, ea, od⟩ := Paired.get r2.obs eo
      have ea2 := addrsAt_get (L := L) ej'
      rw [ea2, getD_of e2] at ea
      cases ea
      cases e1
      refine od.move (g := g.call L H idx) (g' := g) rfl rfl (fun b w => (call_wr (g := g) (L := L) (H := H) (idx := idx) hl).mpr w) (List.all_eq_true.mp n _ (List.getElem_mem hjS))
    · rw [putAll_out hi] at e1
      obtain ⟨a2, ea, od⟩ := Paired.get r.obs e1
      rw [e2] at ea
      cases ea
      refine od.ext r x' fun o q it => x.keep a o q it fun z => ?_
      obtain ⟨j, hj, q2⟩ := addrsAt_mem z hl
      have a1 := List.getElem?_eq_some_iff.mp e2
      have a3 := List.getElem?_eq_some_iff.mp q2
      have := (List.getElem_inj r.nd).mp (a1.2.trans a3.2.symm)
      subst this
      exact hi hj
  · refine x.keep a o (r.keep a o q it na) it fun z => ?_
    have := r.fresh a (sub a z) na
    rw [q] at this; cases this
  · obtain ⟨w, q2⟩ := r.th0 a o q
    exact x.there a w q2
variable {X : Cx} {ml : DM (List D)} {es : List Expr} {e : Expr} {p pos : Pos} {x : Str} {k n : Nat} {f : Addr} {fd : FuncData} {ps : List Str} {fm : DF}
theorem call_reads (hK : X.K = g.K) (hmg : X.mg = g.mg) {Q : VK} (h : T g E (mBind ml (callF n fm)) σ H Q) : TL g E ml σ H (fun vs H1 => spM X.K X.mg n fm (vs ++ []) H1 Q (WE E σ)) := by
  obtain ⟨L, σd, S, rp, sl, ev⟩ := h
  refine ⟨L, σd, S, rp, sl, ev.step fun ds S1 L1 H1 x1 r1 ev1 vs dn => ?_⟩
  show spM X.K X.mg n fm (vs ++ []) H1 Q (WE E σ)
  rw [List.append_nil]
  unfold callF at ev1
  split at ev1
  · rename_i os eo
    split at ev1
    · rename_i hc
      obtain ⟨hn, nd, hp⟩ := hc
      have hl : ∀ i ∈ refsOf ds, i < L1.length := fun i hi => by rw [← Paired.len r1.obs]; exact obsAt_lt eo i hi
      refine ⟨by rw [← Paired.len dn]; exact hn, g.wr L1, addrsAt L1 (refsOf ds), renum 0 ds, os, ?_, ?_, ?_⟩
      · rw [hK, hmg]; exact call_rep r1 nd eo hp
      · rw [hK, hmg]; exact call_dens r1 hl 0 rfl dn
      · rw [hK, hmg]
        show Ev (g.call L1 H1 (refsOf ds)) _ _ _ _ _
        split at ev1
        · rename_i d S2 ef
          split at ev1
          · rename_i hd
            rw [ef]
            intro L' H' x r' v dn'
            obtain ⟨rfl, x2, r2⟩ := call_back r1 nd eo hd.1 hd.2.2 x r'
            exact ev1 L1 H' x2 r2 v (dn'.move (g := g.call L1 H1 (refsOf ds)) (g' := g) rfl rfl (fun b w => (call_wr (g := g) (L := L1) (H := H1) (idx := refsOf ds) hl).mpr w) hd.2.1)
          · exact ev1.elim
        · rename_i ex _ S2 ef
          split at ev1
          · rename_i hd
            rw [ef]
            intro L' H' c y σ' x r' _ dn'
            obtain ⟨rfl, x2, r2⟩ := call_back r1 nd eo hd.1 hd.2.1 x r'
            exact ev1 L1 H' c y σ x2 r2 ((sl.ext rp x1).ext r1 x2) (dn'.move (g := g.call L1 H1 (refsOf ds)) (g' := g) rfl rfl (fun b w => (call_wr (g := g) (L := L1) (H := H1) (idx := refsOf ds) hl).mpr w) hd.2.2)
          · exact ev1.elim
        · exact ev1.elim
    · exact ev1.elim
  · exact ev1.elim
/-- f(e, ..) -/
theorem px_call (F : FnG X.prog X.w X.K X.mg X.base k f fd ps (spM X.K X.mg n fm)) (hr : RoomG k X.A) (hg : Gl X x) (hm : X.mg x = some (.ref f)) (hk : PySem.W.keepIn X.K (.ref f) = true) (hb : Binds X.K fd ps [])
    (hK : X.K = g.K) (hmg : X.mg = g.mg) (tk : Takes X E) (ha : PA X (e :: es) (TL g E ml)) (hdb : (x == ("__debug__" : Str)) = false := by decide) (he : starEach (e :: es) X.env = (false, eval e X.env) :: starEach es X.env := by rfl)
    (hpl : (backTo pos (starEach es X.env)).any (·.1) = false := by rfl) : PE X (.Call (.Name x p) (e :: es) [] pos) (T g E (mBind ml (callF n fm))) :=
  PE.imp (pe_callG (E := fun σ => WE E σ) F hr hg hm hk hb (fun σ => passAt tk σ) ha hdb he hpl) fun σ H Q h => by simpa only [List.append_nil] using call_reads hK hmg h
end
end DL
end
section
namespace DL
open PySem PySem.Spec PyProof.Rows L2

/-! ### statements -/
def sNext : DM Fl := fun σ S => .ok (.next σ) S
def sSeq (a b : DM Fl) : DM Fl := fun σ S => (a σ S).bind fun f S' => match f with
  | .next σ' => b σ' S'
  | f => .ok f S'
def sSet (i : Nat) (m : DM D) : DM Fl := fun σ S => (m σ S).bind fun d S' => .ok (.next (σ.set i (some d))) S'
def sExpr (m : DM D) : DM Fl := fun σ S => (m σ S).bind fun _ S' => .ok (.next σ) S'
def sRet (m : DM D) : DM Fl := fun σ S => (m σ S).bind fun d S' => .ok (.ret d) S'
def sRetN : DM Fl := fun _ S => .ok (.ret .non) S
def sIf (c : DM Bool) (a b : DM Fl) : DM Fl := fun σ S => (c σ S).bind fun k S' => if k then a σ S' else b σ S'
def sBrk : DM Fl := fun σ S => .ok (.brk σ) S
def sCont : DM Fl := fun σ S => .ok (.cont σ) S
section
variable {g g' : G} {E : WX} {L L' : List Addr} {H H' : Hp} {S S' : Sto} {σd : Sl} {σ : St} {v : V} {d : D}
variable {X : Cx} {a b c : Stmt} {as bs : List Stmt} {ma mb : DM Fl} {me : DM D} {nc : DM Bool} {e : Expr} {pos : Pos}
theorem SlDen.put (h : SlDen g L H σd σ) (dn : Den g L H d v) (i : Nat) (hl : i < σ.length) : SlDen g L H (σd.set i (some d)) (σ.set i (some v)) := by
  intro j d' e
  by_cases hj : i = j
  · subst hj
    by_cases hi : i < σd.length
    · rw [List.getElem?_set_self hi] at e
      cases e
      exact ⟨v, List.getElem?_set_self hl, dn⟩
    · rw [List.getElem?_eq_none (by rw [List.length_set]; omega)] at e
      cases e
  · rw [List.getElem?_set_ne hj] at e
    obtain ⟨w, e2, q⟩ := h j d' e
    exact ⟨w, by rw [List.getElem?_set_ne hj]; exact e2, q⟩
theorem qs_nil : PSs X [] (TSt g E sNext) := PSs.imp pss_nil fun D σ H ⟨L, σd, S, rp, sl, ev⟩ => ev.ok rp σ sl
theorem qs_cons (h1 : PS X a (TSt g E ma)) (h2 : PSs X bs (TSt g E mb)) : PSs X (a :: bs) (TSt g E (sSeq ma mb)) :=
  PSs.imp (pss_cons h1 h2) fun D σ H ⟨L, σd, S, rp, sl, ev⟩ => ⟨L, σd, S, rp, sl, (Ev.bind ev).imp fun f S' L' H' x r' ev' => by
    cases f with
    | next σd' => exact fun σ' sl' => ⟨L', σd', S', r', sl', ev'⟩
    | ret d => exact ev'.ok r'
    | brk d => exact ev'.ok r'
    | cont d => exact ev'.ok r'⟩
theorem qs_one (h1 : PS X a (TSt g E ma)) : PSs X [a] (TSt g E ma) := pss_one h1
theorem qs_last (h1 : PS X a (TSt g E ma)) : PSs X [a] (TSt g E ma) := pss_one h1
/-- name = e; σ's length is the names' -/
theorem len_of {X : Cx} {t : TE} (h : PE X e t) : PE X e (fun σ H Q => σ.length = X.N.length → t σ H Q) := ⟨fun p s σ H Q I q => h.run p s σ H Q I (q I.len)⟩
theorem SlDen.put' (h : SlDen g L H σd σ) (dn : Den g L H d v) (i : Nat) : SlDen g L H (σd.set i (some d)) (σ.set i (some v)) ∨ ¬ i < σ.length := by
  by_cases hl : i < σ.length
  · exact .inl (h.put dn i hl)
  · exact .inr hl
end
section
variable {g g' : G} {E : WX} {L L' : List Addr} {H H' : Hp} {S S' : Sto} {σd : Sl} {σ : St} {v : V} {d : D}
variable {X : Cx} {a b c : Stmt} {as bs : List Stmt} {ma mb : DM Fl} {me : DM D} {nc : DM Bool} {e : Expr} {pos : Pos}
theorem PS.len {st : Stmt} {t : TS} (h : PS X st t) : PS X st (fun D σ H => σ.length = X.N.length → t D σ H) := ⟨fun p s σ H D I q => h.run p s σ H D I (q I.len)⟩
theorem PG.len {tg : Expr} {t : TG} (h : PG X tg t) : PG X tg (fun v σ H Q => σ.length = X.N.length → t v σ H Q) := ⟨fun p s σ H v u Q I r q => h.run p s σ H v u Q I r (q I.len)⟩
theorem qs_set {i : Nat} {x : Str} {pos' : Pos} (hN : X.N.Nodup) (hi : X.N[i]? = some x) (hx : Loc X.env.scope x) (he : PE X e (T g E me)) (hs : swapsWith e (some (.Name x pos')) pos.line X.env = pure false := by rfl) (hf : X.fn x = true ∨ X.env.scope.names.lookup x = some .local := by first | exact .inl rfl | exact .inr rfl | assumption) :
    PS X (.Assign [.Name x pos'] e pos) (TSt g E (sSet i me)) :=
  PS.imp (PS.len (ps_set hN hi hx he hs hf)) fun D σ H ⟨L, σd, S, rp, sl, ev⟩ hl => ⟨L, σd, S, rp, sl, (Ev.bind ev).imp fun d S' L' H' x r' ev' v dn => by
    have hl2 : i < σ.length := by rw [hl]; exact (List.getElem?_eq_some_iff.mp hi).1
    exact ev'.ok r' _ ((sl.ext rp x).put dn i hl2)⟩
theorem qs_expr (he : PE X e (T g E me)) (hs : swapsWith e none pos.line X.env = pure false := by rfl) : PS X (.Expr e pos) (TSt g E (sExpr me)) :=
  PS.imp (ps_expr he hs) fun D σ H ⟨L, σd, S, rp, sl, ev⟩ => ⟨L, σd, S, rp, sl, (Ev.bind ev).imp fun d S' L' H' x r' ev' v dn => ev'.ok r' σ (sl.ext rp x)⟩
theorem qs_doc {y j pos pos'} : PS X (.Expr (.Constant (.str y) j pos) pos') (TSt g E sNext) := PS.imp ps_doc fun D σ H ⟨L, σd, S, rp, sl, ev⟩ => ev.ok rp σ sl
theorem qs_pass : PS X (.Pass pos) (TSt g E sNext) := PS.imp ps_pass fun D σ H ⟨L, σd, S, rp, sl, ev⟩ => ev.ok rp σ sl
theorem qs_break : PS X (.Break pos) (TSt g E sBrk) := PS.imp ps_break fun D σ H ⟨L, σd, S, rp, sl, ev⟩ => ev.ok rp σ sl
theorem qs_continue : PS X (.Continue pos) (TSt g E sCont) := PS.imp ps_continue fun D σ H ⟨L, σd, S, rp, sl, ev⟩ => ev.ok rp σ sl
theorem qs_ret (he : PE X e (T g E me)) : PS X (.Return (some e) pos) (TSt g E (sRet me)) :=
  PS.imp (ps_ret he) fun D σ H ⟨L, σd, S, rp, sl, ev⟩ => ⟨L, σd, S, rp, sl, (Ev.bind ev).imp fun d S' L' H' x r' ev' v dn => ev'.ok r' v dn⟩
theorem qs_retN : PS X (.Return none pos) (TSt g E sRetN) := PS.imp ps_retN fun D σ H ⟨L, σd, S, rp, sl, ev⟩ => ev.ok rp .non (.pd .non)
theorem qs_if {c : Expr} (hc : PT X c (TB g E nc)) (ha : PSs X as (TSt g E ma)) (hb : PSs X bs (TSt g E mb)) : PS X (.If c as bs pos) (TSt g E (sIf nc ma mb)) :=
  PS.imp (ps_if hc ha hb) fun D σ H ⟨L, σd, S, rp, sl, ev⟩ => ⟨L, σd, S, rp, sl, (Ev.bind ev).imp fun k S' L' H' x r' ev' => by
    cases k with
    | true => exact ⟨L', σd, S', r', sl.ext rp x, ev'⟩
    | false => exact ⟨L', σd, S', r', sl.ext rp x, ev'⟩⟩
/-- what is not come to -/
def sNever : DM Fl := fun _ _ => .stuck
theorem qs_never : PS X a (TSt g E sNever) := PS.imp ps_never fun D σ H ⟨L, σd, S, rp, sl, ev⟩ => ev
theorem qss_never : PSs X as (TSt g E sNever) := PSs.imp pss_never fun D σ H ⟨L, σd, S, rp, sl, ev⟩ => ev
end

/-! ### targets -/
abbrev TgD := D → Sl → Option Sl
def tgName (i : Nat) : TgD := fun d σ => some (σ.set i (some d))
abbrev TgsD := List D → Sl → Option Sl
def tgNil : TgsD := fun ds σ => match ds with
  | [] => some σ
  | _ => none
def tgCons (t : TgD) (u : TgsD) : TgsD := fun ds σ => match ds with
  | d :: r => (t d σ).bind (u r)
  | [] => none
def tgTup (t : TgsD) : TgD := fun d σ => match d with
  | .pd (.tuple ds) => t (ds.map .pd) σ
  | _ => none
def GT (g : G) (t : TgD) : TG := fun v σ H Q => ∃ L σd S d σd', RepS g L S H ∧ SlDen g L H σd σ ∧ Den g L H d v ∧ t d σd = some σd' ∧ ∀ σ', SlDen g L H σd' σ' → Q σ' H
def GTs (g : G) (t : TgsD) : TGs := fun vs σ H Q => ∃ L σd S ds σd', RepS g L S H ∧ SlDen g L H σd σ ∧ Dens g L H ds vs ∧ t ds σd = some σd' ∧ ∀ σ', SlDen g L H σd' σ' → Q σ' H
section
variable {g g' : G} {E : WX} {L L' : List Addr} {H H' : Hp} {S S' : Sto} {σd : Sl} {σ : St} {v : V} {d : D}
variable {X : Cx} {e : Expr} {es : List Expr} {pos : Pos} {me : DM D} {t : TgD} {u : TgsD}
theorem gx_name {i : Nat} {x : Str} (hN : X.N.Nodup) (hi : X.N[i]? = some x) (hx : Loc X.env.scope x) (hf : X.fn x = true ∨ X.env.scope.names.lookup x = some .local := by first | exact .inl rfl | exact .inr rfl | assumption) : PG X (.Name x pos) (GT g (tgName i)) :=
  PG.imp (PG.len (pg_name hN hi hx hf)) fun v σ H Q ⟨L, σd, S, d, σd', rp, sl, dn, e, q⟩ hl => by
    have hl2 : i < σ.length := by rw [hl]; exact (List.getElem?_eq_some_iff.mp hi).1
    cases e
    exact q _ (sl.put dn i hl2)
theorem gx_nil : PGs X [] (GTs g tgNil) := PGs.imp pgs_nil fun v σ H Q ⟨L, σd, S, ds, σd', rp, sl, dn, e, q⟩ => by
  unfold tgNil at e
  split at e
  · cases e; cases dn; exact ⟨rfl, q σ sl⟩
  · cases e
theorem gx_cons (h1 : PG X e (GT g t)) (h2 : PGs X es (GTs g u)) (hs : (assignEach (e :: es) X.env).map (·.2) = assign e X.env :: (assignEach es X.env).map (·.2) := by rfl) : PGs X (e :: es) (GTs g (tgCons t u)) :=
  PGs.imp (pgs_cons h1 h2 hs) fun v σ H Q ⟨L, σd, S, ds, σd', rp, sl, dn, e, q⟩ => by
    unfold tgCons at e
    split at e
    · rename_i d r
      cases dn with
      | cons d1 d2 =>
        cases e1 : t d σd with
        | none => rw [e1] at e; cases e
        | some σ1 =>
          rw [e1] at e
          exact ⟨_, _, rfl, L, σd, S, d, σ1, rp, sl, d1, e1, fun σ' sl' => ⟨L, σ1, S, r, σd', rp, sl', d2, e, q⟩⟩
    · cases e
theorem GT.tup {k n : Nat} (hK : X.K = g.K) (hc : X.calm = true) (h : PGs X es (GTs g u)) (hn : (assignEach es X.env).length = n := by rfl) (hst : (assignEach es X.env).findIdx? (·.1) = none := by rfl)
    (hu : ∀ ds σd σd', u ds σd = some σd' → ds.length = n) : PG X (.Tuple es k pos) (GT g (tgTup u)) :=
  PG.imp (pg_tup hc h hn hst) fun v σ H Q ⟨L, σd, S, d, σd', rp, sl, dn, e, q⟩ => by
    unfold tgTup at e
    split at e
    · rename_i ds
      obtain ⟨a, vs, rfl, rd, dz⟩ := den_tup dn
      rw [← hK] at rd
      refine ⟨a, vs, rfl, rd, ?_, L, σd, S, _, σd', rp, sl, dz.dens, e, q⟩
      rw [dz.len, ← hu _ _ _ e, List.length_map]
    · cases e
/-- .. of a list too -/
def tgSeq (t : TgsD) (S : Sto) : TgD := fun d σ => match asQ S d with
  | some ds => t ds σ
  | none => none
theorem tgCons_len {n : Nat} (hu : ∀ ds σd σd', u ds σd = some σd' → ds.length = n) : ∀ ds σd σd', tgCons t u ds σd = some σd' → ds.length = n + 1 := by
  intro ds σd σd' e
  unfold tgCons at e
  split at e
  · rename_i d r
    cases e1 : t d σd with
    | none => rw [e1] at e; cases e
    | some σ1 => rw [e1] at e; rw [List.length_cons, hu _ _ _ e]
  · cases e
theorem tgNil_len : ∀ ds σd σd', tgNil ds σd = some σd' → ds.length = 0 := by
  intro ds σd σd' e
  unfold tgNil at e
  split at e
  · rfl
  · cases e
/-- target = e -/
def sAsg (t : TgD) (m : DM D) : DM Fl := fun σ S => (m σ S).bind fun d S' => match t d σ with
  | some σ' => .ok (.next σ') S'
  | none => .stuck
theorem qs_asg {tg : Expr} (he : PE X e (T g E me)) (hg : PG X tg (GT g t)) (hs : swapsWithSole [tg] e pos.line X.env = pure false := by rfl) (hw : swappedStores [tg] e X.env = pure none := by rfl)
    (h1 : (assignEach [tg] X.env).map (·.2) = [assign tg X.env] := by rfl) : PS X (.Assign [tg] e pos) (TSt g E (sAsg t me)) :=
  PS.imp (ps_asg he hg hs hw h1) fun D σ H ⟨L, σd, S, rp, sl, ev⟩ => ⟨L, σd, S, rp, sl, (Ev.bind ev).imp fun d S' L' H' x r' ev' v dn => by
    cases e1 : t d σd with
    | none => rw [e1] at ev'; exact ev'.elim
    | some σ1 =>
      rw [e1] at ev'
      exact ⟨L', σd, S', d, σ1, r', sl.ext rp x, dn, e1, fun σ' sl' => ev'.ok r' σ' sl'⟩⟩
/-- a, b = a list of two (the library's unpacking of a list) -/
def sUnl (t : TgsD) (m : DM D) : DM Fl := fun σ S => (m σ S).bind fun d S' => match asL S' d with
  | some ds => (match t ds σ with
    | some σ' => .ok (.next σ') S'
    | none => .stuck)
  | none => .stuck
/-- o[i] = e, a list -/
def setIx (S : Sto) (o i d : D) : Option Sto := match o, i with
  | .ref n, .pd (.int k) => match S[n]? with
    | some (.lst xs) => match ixN xs.length k with
      | some j => some (S.set n (.lst (xs.set j d)))
      | none => none
    | _ => none
  | _, _ => none
def sSetIx (o i m : DM D) : DM Fl := fun σ S => (m σ S).bind fun d S1 => (o σ S1).bind fun x S2 => (i σ S2).bind fun y S3 => match setIx S3 x y d with
  | some S4 => .ok (.next σ) S4
  | none => .stuck
theorem qs_setIx {o i : Expr} {mo mi : DM D} {pos' : Pos} (ho : PE X o (T g E mo)) (hi : PE X i (T g E mi)) (he : PE X e (T g E me))
    (ha : ∀ v, assign (.Subscript o i pos') X.env v = (do
      let ov ← holding [v] (eval o X.env)
      let iv ← holding [v, ov] (eval i X.env)
      standAt pos'
      holding [v, ov, iv] (setItem ov iv v)
      release [v, ov, iv] []) := by intro _; rfl)
    (hs : swapsWithSole [.Subscript o i pos'] e pos.line X.env = pure false := by rfl) (hw : swappedStores [.Subscript o i pos'] e X.env = pure none := by rfl)
    (h1 : (assignEach [.Subscript o i pos'] X.env).map (·.2) = [assign (.Subscript o i pos') X.env] := by rfl) : PS X (.Assign [.Subscript o i pos'] e pos) (TSt g E (sSetIx mo mi me)) :=
  PS.imp (ps_asg he (pg_sub ho hi set_list ha) hs hw h1) fun D σ H ⟨L, σd, S, rp, sl, ev⟩ => ⟨L, σd, S, rp, sl, (Ev.bind ev).imp fun d S1 L1 H1 x1 r1 ev1 v dn =>
    ⟨L1, σd, S1, r1, sl.ext rp x1, (Ev.bind ev1).imp fun o S2 L2 H2 x2 r2 ev2 ov no => ⟨L2, σd, S2, r2, (sl.ext rp x1).ext r1 x2, (Ev.bind ev2).imp fun i S3 L3 H3 x3 r3 ev3 iv ni => by
      have sl3 := ((sl.ext rp x1).ext r1 x2).ext r2 x3
      have no3 := no.ext r2 x3
      have dn3 := (dn.ext r1 x2).ext r2 x3
      cases es : setIx S3 o i d with
      | none => rw [es] at ev3; exact ev3.elim
      | some S4 =>
        rw [es] at ev3
        unfold setIx at es
        split at es
        · rename_i n k
          cases den_int ni
          cases no3 with
          | @ref _ a hn =>
            split at es
            · rename_i xs hx
              split at es
              · rename_i j hj
                cases es
                obtain ⟨a', ha', od⟩ := r3.ob hx
                rw [hn] at ha'
                cases ha'
                cases od with
                | @lst _ vs q dz =>
                  have hlen := Paired.len dz
                  refine ⟨a, vs, k, j, rfl, rfl, q, by rw [← hlen]; exact hj, ?_⟩
                  have xw : Ext g L3 H3 L3 (upd H3 a (.lst (vs.set j v))) := Ext.write hn
                  exact ev3 L3 _ xw (r3.write hn (by first | exact NT.lst _ | exact NT.dK _ | exact NT.dT _ | exact NT.ins _ _ _) (.lst upd_same (Paired.setR (dn3.ext r3 xw) (dz.ext r3 xw) j))) σ (sl3.ext r3 xw)
              · cases es
            · cases es
        · cases es⟩⟩⟩
/-- name op= e -/
def sAug (i : Nat) (op : D → D → Sto → Out D) (m : DM D) : DM Fl := fun σ S => match σ[i]? with
  | some (some x) => (m σ S).bind fun y S1 => (op x y S1).bind fun z S2 => .ok (.next (σ.set i (some z))) S2
  | _ => .stuck
theorem qs_aug {i : Nat} {x : Str} {op : Operator} {f : D → D → Sto → Out D} {pos' : Pos} (hN : X.N.Nodup) (hi : X.N[i]? = some x) (hx : Loc X.env.scope x) (he : PE X e (T g E me)) (ho : OpX X g (inplaceOp op) f) (hf : X.fn x = true ∨ X.env.scope.names.lookup x = some .local := by first | exact .inl rfl | exact .inr rfl | assumption) :
    PS X (.AugAssign (.Name x pos') op e pos) (TSt g E (sAug i f me)) :=
  PS.imp (PS.len (ps_aug hN hi hx he (ho E) hf)) fun D σ H ⟨L, σd, S, rp, sl, ev⟩ hl => by
    unfold sAug at ev
    split at ev
    · rename_i d e1
      obtain ⟨v, e2, dn⟩ := sl i d e1
      refine ⟨v, e2, L, σd, S, rp, sl, (Ev.bind ev).imp fun y S1 L1 H1 x1 r1 ev1 w dw => ⟨L1, S1, d, y, r1, dn.ext rp x1, dw, (Ev.bind ev1).imp fun z S2 L2 H2 x2 r2 ev2 zv nz => ?_⟩⟩
      have hl2 : i < σ.length := by rw [hl]; exact (List.getElem?_eq_some_iff.mp hi).1
      exact ev2.ok r2 _ (((sl.ext rp x1).ext r1 x2).put nz i hl2)
    · exact ev.elim
end
end DL
end
section
namespace DL
open PySem PySem.Spec PyProof.Rows L2
open Classical

/-! ### what is walked -/
inductive Gu where
  | no
  | at (n : Nat) (ob : Ob)
def Gu.ok : Gu → Sto → Prop
  | .no, _ => True
  | .at n ob, S => S[n]? = some ob
structure Wk where
  items : List D
  gu : Gu
/-- another ground in which the same data stands -/
structure Gx (g g' : G) (H0 : Hp) : Prop where
  K : g'.K = g.K
  mg : g'.mg = g.mg
  W : ∀ a, g'.W a → g.W a ∨ H0 a = none
def DWalk (g : G) (wk : Wk) (L0 : List Addr) (H0 : Hp) (J : It) : Prop := ∀ g' L S H, Gx g g' H0 → Ext g L0 H0 L H → RepS g' L S H → wk.gu.ok S →
  (∀ i d, wk.items[i]? = some d → J.go i H ∧ ∀ x H', J.yld i H x H' → Ext g L H L H' ∧ RepS g' L S H' ∧ Den g' L H' d x) ∧ J.stop wk.items.length H
def TW (g : G) (E : WX) (m : DM Wk) : TI := fun σ H R => ∃ L σd S, RepS g L S H ∧ SlDen g L H σd σ ∧ Ev g E L H (m σd S) (fun wk _ L' H' => ∀ J, DWalk g wk L' H' J → R J H')
theorem PI.imp {X : Cx} {tg e : Expr} {t t' : TI} (h : PI X tg e t) (i : ∀ σ H R, t' σ H R → t σ H R) : PI X tg e t' := ⟨fun p s σ H R I q => h.run p s σ H R I (i σ H R q)⟩
section
variable {g g' : G} {E : WX} {L L' L0 : List Addr} {H H' H0 : Hp} {S S' : Sto} {σd : Sl} {σ : St} {v : V} {d : D}
theorem kpx (r : RepS g L0 S H0) (gx : Gx g g' H0) (x : Ext g L0 H0 L H) : Kp (g.wr L0) (g'.wr L) H0 H where
  keep := fun a o e n nt => x.keep a o e nt fun h => n (.inr h)
  fixed := fun a o e n h => by
    rcases h with h | h
    · rcases gx.W a h with h | h
      · exact n (.inl h)
      · rw [e] at h; cases h
    · have := x.new a h fun h' => n (.inr h')
      rw [e] at this; cases this
  tups := (kp r x).tups
theorem Den.gx (r : RepS g L0 S H0) (gx : Gx g g' H0) (x : Ext g L0 H0 L H) (h : Den g L0 H0 d v) : Den g' L H d v := by
  cases h with
  | pd h => exact .pd (gx.K ▸ h.keep (kpx r gx x))
  | ref h =>
    obtain ⟨t, rfl⟩ := x.pre
    exact .ref (by rw [List.getElem?_append_left (List.getElem?_eq_some_iff.mp h).1]; exact h)
  | glob h => exact .glob (by rw [gx.mg]; exact h)
  | raw => exact .raw
  | xt e hd z =>
    have k := kpx r gx x
    exact .xt (k.keep _ _ e (fun w => (k.tups _ w _).2 _ e) (by rintro ⟨_, q⟩; cases q)) hd (gx.K ▸ z.keep k)
theorem Dens.gx (r : RepS g L0 S H0) (gx : Gx g g' H0) (x : Ext g L0 H0 L H) {ds : List D} {vs : List V} (h : Dens g L0 H0 ds vs) : Dens g' L H ds vs := Paired.imp h fun _ _ q => q.gx r gx x
theorem Ext.any {g2 : G} (x : Ext g L H L' H') : Ext g2 L H L' H' := ⟨x.pre, x.new, x.keep, x.there⟩
def guOf (S : Sto) : D → Gu
  | .ref n => match S[n]? with
    | some ob => .at n ob
    | none => .no
  | _ => .no
/-- the walk of a list, a tuple -/
def wkSeq (d : D) : DM Wk := fun _ S => match asQ S d with
  | some xs => .ok ⟨xs, guOf S d⟩ S
  | none => .stuck
theorem seq_stays (r : RepS g L0 S H0) (dn : Den g L0 H0 d v) {xs : List D} (e : asQ S d = some xs) : ∃ a vs, v = .ref a ∧ Dens g L0 H0 xs vs ∧
    ((SqL g.K H0 a vs ∧ ∀ g' L S' H, Gx g g' H0 → Ext g L0 H0 L H → RepS g' L S' H → (guOf S d).ok S' → ∃ ws, SqL g.K H a ws ∧ Dens g' L H xs ws) ∨
     (SqT g.K H0 a vs ∧ ∀ g' L S' H, Gx g g' H0 → Ext g L0 H0 L H → RepS g' L S' H → (guOf S d).ok S' → SqT g.K H a vs)) := by
  unfold asQ at e
  split at e
  · rename_i ys
    cases e
    obtain ⟨a, vs, rfl, rd, dz⟩ := den_tup dn
    refine ⟨a, vs, rfl, dz.dens, .inr ⟨rd, fun g' L S' H gx x r' _ => SqT.keep rd fun zs hz o e' it => x.keep a o e' it fun hm => ?_⟩⟩
    obtain ⟨o2, e2, nt⟩ := r.there hm
    rcases hz with hz | ⟨o3, hz⟩
    · rw [hz] at e2; cases e2; exact nt.no_tup zs rfl
    · rw [hz] at e2; cases e2; exact nt.no_frz o3 _ rfl
  · unfold asL at e
    split at e
    · cases e
      cases dn with
      | pd h =>
        cases h with
        | @lst a vs _ nw rd dz =>
          refine ⟨a, vs, rfl, dz.dens, .inl ⟨.inl rd, fun g' L S' H gx x r' _ => ⟨vs, .inl (Rd.keep rd fun o e' it => x.keep a o e' it fun hm => nw (.inr hm)), dz.dens.gx r gx x⟩⟩⟩
    · rename_i n
      cases dn with
      | @ref _ a hn =>
        split at e
        · rename_i xs' hs
          cases e
          obtain ⟨a', ha, od⟩ := r.ob hs
          rw [hn] at ha
          cases ha
          cases od with
          | lst q ds =>
            refine ⟨a, _, rfl, ds, .inl ⟨.inl (.inl q), fun g' L S' H gx x r' gu => ?_⟩⟩
            simp only [guOf, hs, Gu.ok] at gu
            obtain ⟨a2, ha2, od2⟩ := r'.ob gu
            obtain ⟨t, rfl⟩ := x.pre
            rw [List.getElem?_append_left (List.getElem?_eq_some_iff.mp hn).1, hn] at ha2
            cases ha2
            cases od2 with
            | lst q2 ds2 => exact ⟨_, .inl (.inl q2), ds2⟩
        · cases e
    · cases e
variable {X : Cx} {tg e : Expr} {me : DM D} {pos p : Pos}
theorem Dens.getR {ds : List D} {vs : List V} (h : Dens g L H ds vs) {i : Nat} (e : ds[i]? = some d) : ∃ v, vs[i]? = some v ∧ Den g L H d v := Paired.get h e
def iSeq (m : DM D) : DM Wk := mBind m wkSeq

def iSeqT (K : PySem.W.Frag) (tl : TE) : TI := fun σ H R => tl σ H fun x H1 => ∃ a, x = .ref a ∧ ((∃ xs, SqL K H1 a xs ∧ R (Itl K a) H1) ∨ (∃ xs, SqT K H1 a xs ∧ R (Itt K a) H1))
theorem pi_seq {l : Expr} {tl : TE} (hl : PE X l tl) : PI X tg l (iSeqT X.K tl) := by
  refine ⟨fun pins s σ H R I h => ?_⟩
  refine thn (hl.run pins s σ H _ I h) fun v s1 ⟨x, H1, I1, r1, q1⟩ => ?_
  obtain ⟨a, e, q⟩ := q1
  subst e
  cases r1
  rcases q with ⟨xs, hq, q⟩ | ⟨xs, hq, q⟩
  · obtain ⟨its, rv, p, hz⟩ := I1.list hq
    refine wpAny_pyIter_list p.isList ?_
    refine ⟨s1.heap.objs.size, [s1.heap.objs.size], _, _, H1, rfl, I1.kept (t' := s1.toks) fun b o e => Heap.get?_push_of_some _ e, turn_list a _, ⟨_, Heap.get?_push_size _ rfl, rfl, rfl⟩, fun b hb => ?_, q⟩
    have e : b = s1.heap.objs.size := by simpa using hb
    subst e
    exact I1.fpOk (Nat.le_refl _) (I1.hok.fresh (Nat.le_refl _))
  · obtain ⟨its, rv, p, hz⟩ := I1.tuple hq
    refine wpAny_pyIter_tuple (show s1.heap.IsTuple a its.toArray from p) ?_
    refine ⟨s1.heap.objs.size, [s1.heap.objs.size], _, _, H1, rfl, I1.kept (t' := s1.toks) fun b o e => Heap.get?_push_of_some _ e, turn_tuple a _, ⟨_, Heap.get?_push_size _ rfl, rfl, rfl⟩, fun b hb => ?_, q⟩
    have e : b = s1.heap.objs.size := by simpa using hb
    subst e
    exact I1.fpOk (Nat.le_refl _) (I1.hok.fresh (Nat.le_refl _))
/-- for x in a list, a tuple -/
theorem ix_seq (hK : X.K = g.K) (he : PE X e (T g E me)) : PI X tg e (TW g E (iSeq me)) :=
  PI.imp (pi_seq he) fun σ H R ⟨L, σd, S, rp, sl, ev⟩ => ⟨L, σd, S, rp, sl, ev.step fun d S1 L1 H1 x1 r1 ev1 v dn => by
    unfold wkSeq at ev1
    split at ev1
    · rename_i xs ex
      have fin := ev1.ok r1
      obtain ⟨a, vs, rfl, ds, hh⟩ := seq_stays r1 dn ex
      rw [hK]
      rcases hh with ⟨hq, st⟩ | ⟨hq, st⟩
      · refine ⟨a, rfl, .inl ⟨vs, hq, fin _ fun g' L S H gx x r' gu => ?_⟩⟩
        obtain ⟨ws, hw, dw⟩ := st g' L S H gx x r' gu
        refine ⟨fun i d e => ?_, ws, hw, by rw [Paired.len dw]; exact Nat.le_refl _⟩
        obtain ⟨y, ey, dy⟩ := Paired.get dw e
        refine ⟨⟨ws, y, hw, ey⟩, fun z H' hz => ?_⟩
        obtain ⟨rfl, hz⟩ := hz
        have := hz ws hw
        rw [ey] at this
        cases this
        exact ⟨Ext.refl, r', dy⟩
      · refine ⟨a, rfl, .inr ⟨vs, hq, fin _ fun g' L S H gx x r' gu => ?_⟩⟩
        have hw := st g' L S H gx x r' gu
        refine ⟨fun i d e => ?_, vs, hw, by rw [Paired.len ds]; exact Nat.le_refl _⟩
        obtain ⟨y, ey, dy⟩ := Paired.get ds e
        refine ⟨⟨vs, y, hw, ey⟩, fun z H' hz => ?_⟩
        obtain ⟨rfl, hz⟩ := hz
        have := hz vs hw
        rw [ey] at this
        cases this
        exact ⟨Ext.refl, r', dy.gx r1 gx x⟩
    · exact ev1.elim⟩
/-- ints lo, lo + 1, .. -/
def wkRange (lo : Int) (n : Nat) : Wk := ⟨(List.range n).map fun (i : Nat) => D.int (lo + i), .no⟩
theorem range_walk {lo : Int} {n : Nat} : DWalk g (wkRange lo n) L0 H0 (Itr lo n) := fun g' L S H gx x r _ =>
  ⟨fun i d e => by
    unfold wkRange at e
    rw [List.getElem?_map] at e
    cases q : (List.range n)[i]? with
    | none => rw [q] at e; cases e
    | some j =>
      rw [q] at e
      have hj : i < n ∧ j = i := by
        obtain ⟨h1, h2⟩ := List.getElem?_eq_some_iff.mp q
        simp at h1 h2
        exact ⟨h1, h2.symm⟩
      obtain ⟨hi, rfl⟩ := hj
      cases e
      exact ⟨hi, fun z H' hz => by obtain ⟨rfl, rfl⟩ := hz; exact ⟨Ext.refl, r, .pd (.int _)⟩⟩,
  by show n ≤ (wkRange lo n).items.length; unfold wkRange; simp⟩
def rangeOf1 : List D → DM Wk := fun ds _ S => match ds with
  | [.pd (.int j)] => if -(2 ^ 62) ≤ j ∧ j < 2 ^ 62 then .ok (wkRange 0 j.toNat) S else .stuck
  | _ => .stuck
def rangeOf2 : List D → DM Wk := fun ds _ S => match ds with
  | [.pd (.int i), .pd (.int j)] => if -(2 ^ 62) ≤ i ∧ i < 2 ^ 62 ∧ -(2 ^ 62) ≤ j ∧ j < 2 ^ 62 then .ok (wkRange i (j - i).toNat) S else .stuck
  | _ => .stuck
def iRange1 (m : DM (List D)) : DM Wk := mBind m rangeOf1
def iRange2 (m : DM (List D)) : DM Wk := mBind m rangeOf2
variable {ml : DM (List D)} {a b : Expr}
theorem ix_range1 (hg : Gl X "range") (hm : X.mg "range" = none) (ha : PA X [a] (TL g E ml)) (hs : starEach [a] X.env = [(false, eval a X.env)] := by rfl) : PI X tg (.Call (.Name "range" p) [a] [] pos) (TW g E (iRange1 ml)) :=
  PI.imp (pi_range1 hg hm ha hs) fun σ H R ⟨L, σd, S, rp, sl, ev⟩ => ⟨L, σd, S, rp, sl, ev.step fun ds S1 L1 H1 x1 r1 ev1 vs dn => by
    unfold rangeOf1 at ev1
    split at ev1
    · rename_i j
      split at ev1
      · rename_i hj
        cases dn with
        | cons d1 d2 =>
          cases d2
          cases den_int d1
          exact ⟨j, rfl, hj.1, hj.2, ev1.ok r1 _ range_walk⟩
      · exact ev1.elim
    · exact ev1.elim⟩
theorem ix_range2 (hg : Gl X "range") (hm : X.mg "range" = none) (ha : PA X [a, b] (TL g E ml)) (hs : starEach [a, b] X.env = [(false, eval a X.env), (false, eval b X.env)] := by rfl) (hs2 : starEach [b] X.env = [(false, eval b X.env)] := by rfl) : PI X tg (.Call (.Name "range" p) [a, b] [] pos) (TW g E (iRange2 ml)) :=
  PI.imp (pi_range2 hg hm ha hs hs2) fun σ H R ⟨L, σd, S, rp, sl, ev⟩ => ⟨L, σd, S, rp, sl, ev.step fun ds S1 L1 H1 x1 r1 ev1 vs dn => by
    unfold rangeOf2 at ev1
    split at ev1
    · rename_i i j
      split at ev1
      · rename_i hj
        cases dn with
        | cons d1 d2 =>
          cases d2 with
          | cons d2 d3 =>
            cases d3
            cases den_int d1
            cases den_int d2
            exact ⟨i, j, rfl, hj, ev1.ok r1 _ range_walk⟩
      · exact ev1.elim
    · exact ev1.elim⟩

/-! ### for -/
def clr : List Nat → Sl → Sl
  | [], σ => σ
  | i :: r, σ => (clr r σ).set i none
theorem SlDen.clr (h : SlDen g L H σd σ) : ∀ vs : List Nat, SlDen g L H (clr vs σd) σ
  | [] => h
  | j :: r => fun i d e => by
    by_cases hj : j = i
    · subst hj
      unfold DL.clr at e
      by_cases hl : j < (DL.clr r σd).length
      · rw [List.getElem?_set_self hl] at e; cases e
      · rw [List.getElem?_eq_none (by rw [List.length_set]; omega)] at e; cases e
    · unfold DL.clr at e
      rw [List.getElem?_set_ne hj] at e
      exact SlDen.clr h r i d e
noncomputable def forGo (gu : Gu) (t : TgD) (body : DM Fl) (vs : List Nat) : List D → DM Fl
  | [] => fun σ S => if gu.ok S then .ok (.next σ) S else .stuck
  | d :: r => fun σ S => if gu.ok S then (match t d σ with
    | some σ1 => (body σ1 S).bind fun f S' => match f with
      | .next σ2 => forGo gu t body vs r (clr vs σ2) S'
      | .cont σ2 => forGo gu t body vs r (clr vs σ2) S'
      | .brk σ2 => .ok (.next (clr vs σ2)) S'
      | .ret d => .ok (.ret d) S'
    | none => .stuck) else .stuck
noncomputable def sFor (vs : List Nat) (w : DM Wk) (t : TgD) (body : DM Fl) : DM Fl := fun σ S => (w σ S).bind fun wk S' => forGo wk.gu t body vs wk.items (clr vs σ) S'
variable {mw : DM Wk} {t : TgD} {mb : DM Fl} {iter : Expr} {body : List Stmt} {vs : List Nat}
theorem gx_refl : Gx g g H0 := ⟨rfl, rfl, fun _ h => .inl h⟩
theorem qs_for (hp : PassesOwn (model X.prog X.w) X.A X.env X.xe) (hc : X.calm = true) (hi : PI X tg iter (TW g E mw)) (hg : PG X tg (GT g t)) (hb : PSs X body (TSt g E mb))
    (hs : ∀ x, foldedSetIterable iter X.env x = pure x := by intro _; rfl) : PS X (.For tg iter body [] pos) (TSt g E (sFor vs mw t mb)) :=
  PS.imp (ps_for hp hc hi hg hb hs) fun D σ H ⟨L, σd, S, rp, sl, ev⟩ => ⟨L, σd, S, rp, sl, (Ev.bind ev).imp fun wk S1 L1 H1 x1 r1 ev1 J hJ => by
    refine ⟨fun i m σ H => ∃ L σd S, m = wk.items.length - i ∧ i ≤ wk.items.length ∧ Ext g L1 H1 L H ∧ RepS g L S H ∧ SlDen g L H σd σ ∧ Ev g E L H (forGo wk.gu t mb vs (wk.items.drop i) σd S) (PF g D),
      ⟨wk.items.length, L1, clr vs σd, S1, by simp, Nat.zero_le _, Ext.refl, r1, (sl.ext rp x1).clr vs, by simpa using ev1⟩, ?_⟩
    rintro i m σ2 H2 ⟨L2, σd2, S2, rfl, hi, x2, r2, sl2, ev2⟩
    cases hd : wk.items.drop i with
    | nil =>
      rw [hd] at ev2
      unfold forGo at ev2
      split at ev2
      · rename_i gu
        have hi2 : i = wk.items.length := by
          have := congrArg List.length hd
          simp at this
          omega
        obtain ⟨_, st⟩ := hJ g L2 S2 H2 gx_refl x2 r2 gu
        subst hi2
        exact .inl ⟨st, ev2.ok r2 σ2 sl2⟩
      · exact ev2.elim
    | cons d r =>
      rw [hd] at ev2
      unfold forGo at ev2
      split at ev2
      · rename_i gu
        have hi2 : i < wk.items.length := by
          have := congrArg List.length hd
          simp at this
          omega
        have ed : wk.items[i]? = some d := by
          have := congrArg (fun l => l[0]?) hd
          simpa [List.getElem?_drop] using this
        have hr : wk.items.drop (i + 1) = r := by
          have := congrArg (List.drop 1) hd
          simpa [List.drop_drop, Nat.add_comm] using this
        obtain ⟨go, _⟩ := hJ g L2 S2 H2 gx_refl x2 r2 gu
        obtain ⟨go, yl⟩ := go i d ed
        cases e1 : t d σd2 with
        | none => rw [e1] at ev2; exact ev2.elim
        | some σ3 =>
          rw [e1] at ev2
          refine .inr ⟨go, fun σ H => ∃ L σd S, i + 1 ≤ wk.items.length ∧ Ext g L1 H1 L H ∧ RepS g L S H ∧ SlDen g L H σd σ ∧ Ev g E L H (forGo wk.gu t mb vs (wk.items.drop (i + 1)) σd S) (PF g D), fun σ' H' ⟨L', σd', S', h1, h2, h3, h4, h5⟩ => ⟨wk.items.length - (i + 1), by omega, L', σd', S', rfl, h1, h2, h3, h4, h5⟩, fun z H3 hz => ?_⟩
          obtain ⟨x3, r3, dn⟩ := yl z H3 hz
          refine ⟨L2, σd2, S2, d, σ3, r3, sl2.ext r2 x3, dn, e1, fun σ' sl' => ⟨L2, σ3, S2, r3, sl', (Ev.of x3 (Ev.bind ev2)).imp fun f S4 L4 H4 x4 r4 ev4 => ?_⟩⟩
          rw [hr]
          cases f with
          | next σ5 => exact fun σ6 sl6 => ⟨L4, clr vs σ5, S4, hi2, (x2.trans x3).trans x4, r4, sl6.clr vs, ev4⟩
          | cont σ5 => exact fun σ6 sl6 => ⟨L4, clr vs σ5, S4, hi2, (x2.trans x3).trans x4, r4, sl6.clr vs, ev4⟩
          | brk σ5 => exact fun σ6 sl6 => ev4.ok r4 σ6 (sl6.clr vs)
          | ret d => exact ev4.ok r4
      · exact ev2.elim⟩

/-! ### while -/
def whileN (c : DM Bool) (body : DM Fl) (vs : List Nat) : Nat → DM Fl
  | 0 => fun _ _ => .stuck
  | n + 1 => fun σ S => (c σ S).bind fun k S1 => if k then (body σ S1).bind fun f S2 => match f with
      | .next σ2 => whileN c body vs n (clr vs σ2) S2
      | .cont σ2 => whileN c body vs n (clr vs σ2) S2
      | .brk σ2 => .ok (.next (clr vs σ2)) S2
      | .ret d => .ok (.ret d) S2
    else .ok (.next σ) S1
noncomputable def sWhile (vs : List Nat) (c : DM Bool) (body : DM Fl) : DM Fl := fun σ S => if h : ∃ n, whileN c body vs n (clr vs σ) S ≠ .stuck then whileN c body vs (Classical.choose h) (clr vs σ) S else .stuck
variable {nc : DM Bool} {c : Expr}
theorem qs_while (hp : PassesOwn (model X.prog X.w) X.A X.env X.xe) (hc : PT X c (TB g E nc)) (hb : PSs X body (TSt g E mb)) : PS X (.While c body [] pos) (TSt g E (sWhile vs nc mb)) :=
  PS.imp (ps_while hp hc hb) fun D σ H ⟨L, σd, S, rp, sl, ev⟩ => by
    unfold sWhile at ev
    split at ev
    · rename_i h
      refine ⟨fun m σ H => ∃ L σd S, RepS g L S H ∧ SlDen g L H σd σ ∧ Ev g E L H (whileN nc mb vs m σd S) (PF g D), ⟨_, L, _, S, rp, sl.clr vs, ev⟩, ?_⟩
      rintro m σ2 H2 ⟨L2, σd2, S2, r2, sl2, ev2⟩
      cases m with
      | zero => exact ev2.elim
      | succ m =>
        unfold whileN at ev2
        refine ⟨L2, σd2, S2, r2, sl2, (Ev.bind ev2).imp fun k S3 L3 H3 x3 r3 ev3 => ?_⟩
        cases k with
        | false => exact Ev.ok (P := PF g D) (E := E) (a := Fl.next σd2) ev3 r3 σ2 (sl2.ext r2 x3)
        | true =>
          show ∃ N : St → Hp → Prop, _
          refine ⟨fun σ H => ∃ L σd S, RepS g L S H ∧ SlDen g L H σd σ ∧ Ev g E L H (whileN nc mb vs m σd S) (PF g D), fun σ' H' h => ⟨m, Nat.lt_succ_self m, h⟩, L3, σd2, S3, r3, sl2.ext r2 x3, ?_⟩
          have ev3' : Ev g E L3 H3 ((mb σd2 S3).bind fun f S2 => match f with
            | .next σ2 => whileN nc mb vs m (clr vs σ2) S2
            | .cont σ2 => whileN nc mb vs m (clr vs σ2) S2
            | .brk σ2 => .ok (.next (clr vs σ2)) S2
            | .ret d => .ok (.ret d) S2) (PF g D) := ev3
          refine (Ev.bind ev3').imp fun f S4 L4 H4 x4 r4 ev4 => ?_
          cases f with
          | next σ5 => exact fun σ6 sl6 => ⟨L4, clr vs σ5, S4, r4, sl6.clr vs, ev4⟩
          | cont σ5 => exact fun σ6 sl6 => ⟨L4, clr vs σ5, S4, r4, sl6.clr vs, ev4⟩
          | brk σ5 => exact fun σ6 sl6 => ev4.ok r4 σ6 (sl6.clr vs)
          | ret d => exact ev4.ok r4
    · exact ev.elim
end
end DL
end
section
namespace DL
open PySem PySem.Spec PyProof.Rows L2
open Classical

/-! ### comprehensions -/
def TgR (K : PySem.W.Frag) (N : List Str) (vs : List Nat) (gt : TG) (t : TgD) : Prop := ∀ (g : G) (L : List Addr) (S : Sto) (H : Hp) (v : V) (d : D) (σd σd' : Sl) (σ : L2.St) (Q : L2.St → Hp → Prop), g.K = K → RepS g L S H → SlDen g L H σd σ → σ.length = N.length → Den g L H d v → t d σd = some σd' →
  (∀ σ' : L2.St, SlDen g L H σd' σ' → σ'.length = σ.length → (∀ i, i ∉ vs → σ'[i]? = σ[i]?) → Q σ' H) → gt v σ H Q
def TgsR (K : PySem.W.Frag) (N : List Str) (vs : List Nat) (gt : TGs) (t : TgsD) : Prop := ∀ (g : G) (L : List Addr) (S : Sto) (H : Hp) (v : List V) (d : List D) (σd σd' : Sl) (σ : L2.St) (Q : L2.St → Hp → Prop), g.K = K → RepS g L S H → SlDen g L H σd σ → σ.length = N.length → Dens g L H d v → t d σd = some σd' →
  (∀ σ' : L2.St, SlDen g L H σd' σ' → σ'.length = σ.length → (∀ i, i ∉ vs → σ'[i]? = σ[i]?) → Q σ' H) → gt v σ H Q
section
variable {K : PySem.W.Frag} {N : List Str} {vs : List Nat} {gt : TG} {gts : TGs} {t : TgD} {u : TgsD}
theorem tr_name {i : Nat} {x : Str} (hi : N[i]? = some x := by rfl) (hm : i ∈ vs := by decide) : TgR K N vs (gName i) (tgName i) := by
  intro g L S H v d σd σd' σ Q hK r sl hl dn e q
  cases e
  have hl2 : i < σ.length := by rw [hl]; exact (List.getElem?_eq_some_iff.mp hi).1
  refine q _ (sl.put dn i hl2) (by rw [List.length_set]) fun j hj => ?_
  rw [List.getElem?_set_ne (show i ≠ j from fun z => hj (by rw [← z]; exact hm))]
theorem tr_nil : TgsR K N vs gNil tgNil := by
  intro g L S H v d σd σd' σ Q hK r sl hl dn e q
  unfold tgNil at e
  split at e
  · cases e; cases dn; exact ⟨rfl, q σ sl rfl fun _ _ => rfl⟩
  · cases e
theorem tr_cons (h1 : TgR K N vs gt t) (h2 : TgsR K N vs gts u) : TgsR K N vs (gCons gt gts) (tgCons t u) := by
  intro g L S H v d σd σd' σ Q hK r sl hl dn e q
  unfold tgCons at e
  split at e
  · rename_i d r'
    cases dn with
    | cons d1 d2 =>
      cases e1 : t d σd with
      | none => rw [e1] at e; cases e
      | some σ1 =>
        rw [e1] at e
        exact ⟨_, _, rfl, h1 g L S H _ _ _ _ _ _ hK r sl hl d1 e1 fun σ' sl' hl' out => h2 g L S H _ _ _ _ _ _ hK r sl' (hl'.trans hl) d2 e fun σ'' sl'' hl'' out'' => q σ'' sl'' (hl''.trans hl') fun i hi => (out'' i hi).trans (out i hi)⟩
  · cases e
theorem tr_tup {n : Nat} (h : TgsR K N vs gts u) (hu : ∀ ds σd σd', u ds σd = some σd' → ds.length = n) : TgR K N vs (gTup K n gts) (tgTup u) := by
  intro g L S H v d σd σd' σ Q hK r sl hl dn e q
  unfold tgTup at e
  split at e
  · rename_i ds
    obtain ⟨a, vs, rfl, rd, dz⟩ := den_tup dn
    rw [hK] at rd
    refine ⟨a, vs, rfl, rd, ?_, h g L S H _ _ _ _ _ _ hK r sl hl dz.dens e q⟩
    rw [dz.len, ← hu _ _ _ e, List.length_map]
  · cases e
theorem wipe_in {σ : L2.St} : ∀ {vs : List Nat} {i : Nat}, i ∈ vs → i < σ.length → (wipe σ vs)[i]? = some none
  | [], _, h, _ => by cases h
  | v :: vs, i, h, hl => by
    unfold wipe
    by_cases e : v = i
    · subst e
      exact List.getElem?_set_self (by rw [wipe_length]; exact hl)
    · rw [List.getElem?_set_ne e]
      rcases List.mem_cons.mp h with h | h
      · exact absurd h.symm e
      · exact wipe_in h hl
theorem wipe_eq {σ σ' : L2.St} {vs : List Nat} (hl : σ'.length = σ.length) (h : ∀ i, i ∉ vs → σ'[i]? = σ[i]?) : wipe σ' vs = wipe σ vs := by
  refine List.ext_getElem? fun i => ?_
  by_cases hi : i ∈ vs
  · by_cases hl2 : i < σ.length
    · rw [wipe_in hi hl2, wipe_in hi (by rw [hl]; exact hl2)]
    · rw [List.getElem?_eq_none (by rw [wipe_length]; omega), List.getElem?_eq_none (by rw [wipe_length]; omega)]
  · rw [wipe_out hi, wipe_out hi, h i hi]
end
def Out.bindN {α β : Type} : Out α → (α → Sto → Out β) → Out β
  | .ok a S, f => f a S
  | _, _ => .stuck
@[simp] theorem Out.bindN_ok {α β : Type} (a : α) (S : Sto) (f : α → Sto → Out β) : (Out.ok a S).bindN f = f a S := rfl
noncomputable def lcGo (gu : Gu) (t : TgD) (tt : DM Bool) (te : DM D) : List D → List D → Sl → Sto → Out (List D)
  | [], acc, _, S => if gu.ok S then .ok acc S else .stuck
  | d :: r, acc, σ, S => if gu.ok S then (match t d σ with
    | some σ1 => (tt σ1 S).bindN fun k S1 => if k = true then (te σ1 S1).bindN fun y S2 => if acc.length < sizeLine then lcGo gu t tt te r (acc ++ [y]) σ S2 else .stuck else lcGo gu t tt te r acc σ S1
    | none => .stuck) else .stuck
/-- [e for t in w if tt]: the new list's items -/
noncomputable def lcAll (vs : List Nat) (w : DM Wk) (t : TgD) (tt : DM Bool) (te : DM D) : DM (List D) := fun σ S => (w σ S).bind fun wk S' => lcGo wk.gu t tt te wk.items [] (clr vs σ) S'
def mkF : List D → DM D := fun ys _ S => match pdL ys with
  | some zs => .ok (.lst zs) S
  | none => .stuck
def mkM : List D → DM D := fun ys _ S => .ok (.ref S.length) (S ++ [.lst ys])
noncomputable def eLc (vs : List Nat) (w : DM Wk) (t : TgD) (tt : DM Bool) (te : DM D) : DM D := mBind (lcAll vs w t tt te) mkF
noncomputable def eLcM (vs : List Nat) (w : DM Wk) (t : TgD) (tt : DM Bool) (te : DM D) : DM D := mBind (lcAll vs w t tt te) mkM
section
variable {g g' : G} {E : WX} {L L' L0 : List Addr} {H H' H0 : Hp} {S S' : Sto} {σd : Sl} {σ : L2.St} {v : V} {d : D}
/-- the ground of a comprehension's block: the new list, too, is not to be touched -/
def G.blk (g : G) (A : Addr) : G := { g with W := fun a => g.W a ∨ a = A }
theorem blk_gx {A : Addr} (h : H0 A = none) : Gx g (g.blk A) H0 := ⟨rfl, rfl, fun a w => w.imp id fun e => by rw [e]; exact h⟩
theorem blk_rep {A : Addr} {o : HO} (nt : NT o) (r : RepS g L S H) (h : H A = some o) (hn : A ∉ L) (ob : Paired (fun ob a => ObDen (g.blk A) L H a ob) S L) : RepS (g.blk A) L S H where
  nd := r.nd
  pre := r.pre
  obs := ob
  fresh := r.fresh
  own := fun a h na w => w.elim (r.own a h na) fun e => hn (e ▸ h)
  keep := r.keep
  amb := fun a w => w.elim (r.amb a) fun e => ⟨o, e.symm ▸ h, nt⟩
  asW := fun a h => .inl (r.asW a h)
  th0 := r.th0
  tabs := r.tabs
theorem Den.back {A : Addr} (h : Den (g.blk A) L H d v) : Den g L H d v := by
  cases h with
  | pd q => exact .pd (q.anti fun b w => w.imp .inl id)
  | ref q => exact .ref q
  | glob q => exact .glob q
  | raw => exact .raw
  | xt e hd z => exact .xt e hd (z.anti fun b w => w.imp .inl id)
theorem blk_back {A : Addr} (r : RepS (g.blk A) L S H) (hw : ∀ a ∈ g.as, g.W a) : RepS g L S H where
  nd := r.nd
  pre := r.pre
  obs := Paired.imp r.obs fun ob a d => by
    cases d with
    | lst e q => exact .lst e (Paired.imp q fun _ _ q => Den.back q)
    | dct e q => exact .dct e (Paired.imp q fun _ _ q => ⟨q.1, Den.back q.2⟩)
    | dtt e q => exact .dtt e (Paired.imp q fun _ _ q => ⟨q.1, Den.back q.2⟩)
    | ins c e q => exact .ins c e (Paired.imp q fun _ _ q => ⟨q.1, Den.back q.2⟩)
  fresh := r.fresh
  own := fun a h na w => r.own a h na (.inl w)
  keep := r.keep
  amb := fun a w => r.amb a (.inl w)
  asW := hw
  th0 := r.th0
  tabs := r.tabs
theorem Ext.upd1 {A : Addr} {o : HO} (hn : A ∉ L) (h : H A = some o) {o' : HO} : Ext (g) L0 H0 L H → H0 A = none → Ext g L0 H0 L (upd H A o') := fun x h0 =>
  ⟨x.pre, x.new, fun a u e it na => by rw [upd_ne (ne_of_none e h0)]; exact x.keep a u e it na, fun a u e => by rw [upd_ne (ne_of_none e h0)]; exact x.there a u e⟩
/-- the new list's content is written: nothing else is touched -/
theorem RepS.updO {A : Addr} {o' : HO} (nt : NT o') (r : RepS (g.blk A) L S H) (hn : A ∉ L) (h0 : g.H0 A = none) : RepS (g.blk A) L S (upd H A o') := by
  have kpx : Kp ((g.blk A).wr L) ((g.blk A).wr L) H (upd H A o') := ⟨fun a o e n _ => by rw [upd_ne (show a ≠ A from fun z => n (.inl (.inr z)))]; exact e, fun a o e n => n, (kp r Ext.refl).tups⟩
  have dk : ∀ {d : D} {v : V}, Den (g.blk A) L H d v → Den (g.blk A) L (upd H A o') d v := fun {d v} h => by
    cases h with
    | pd q => exact .pd (q.keep kpx)
    | ref q => exact .ref q
    | glob q => exact .glob q
    | raw => exact .raw
    | xt e hd z => exact .xt (kpx.keep _ _ e (fun w => (kpx.tups _ w _).2 _ e) (by rintro ⟨_, q⟩; cases q)) hd (z.keep kpx)
  refine ⟨r.nd, r.pre, Paired.memL r.obs fun ob a _ ha d => ?_, r.fresh, r.own, fun a o e it na => ?_, fun a w => ?_, r.asW, fun a o q => ?_, ?_⟩
  · have ne : a ≠ A := fun z => hn (z ▸ ha)
    cases d with
    | lst e q => exact .lst (by rw [upd_ne ne]; exact e) (Paired.imp q fun _ _ q => dk q)
    | dct e q => exact .dct (by rw [upd_ne ne]; exact e) (Paired.imp q fun _ _ q => ⟨q.1, dk q.2⟩)
    | dtt e q => exact .dtt (by rw [upd_ne ne]; exact e) (Paired.imp q fun _ _ q => ⟨q.1, dk q.2⟩)
    | ins c e q => exact .ins c (by rw [upd_ne ne]; exact e) (Paired.imp q fun _ _ q => ⟨q.1, dk q.2⟩)
  · have e' : g.H0 a = some o := e
    rw [upd_ne (ne_of_none e' h0)]
    exact r.keep a o e it na
  · by_cases z : a = A
    · subst z; exact ⟨_, upd_same, nt⟩
    · obtain ⟨o, e, nt⟩ := r.amb a w
      exact ⟨o, by rw [upd_ne z]; exact e, nt⟩
  · by_cases z : a = A
    · subst z; exact ⟨_, upd_same⟩
    · obtain ⟨w, e⟩ := r.th0 a o q
      exact ⟨w, by rw [upd_ne z]; exact e⟩
  · obtain ⟨o, e, nt⟩ := r.amb A (.inr rfl)
    exact tabs_upd r.tabs e nt
theorem Den.updO {A : Addr} {o' : HO} (r : RepS (g.blk A) L S H) (h : Den (g.blk A) L H d v) : Den (g.blk A) L (upd H A o') d v := by
  have kpx : Kp ((g.blk A).wr L) ((g.blk A).wr L) H (upd H A o') := ⟨fun a o e n _ => by rw [upd_ne (show a ≠ A from fun z => n (.inl (.inr z)))]; exact e, fun a o e n => n, (kp r Ext.refl).tups⟩
  cases h with
  | pd q => exact .pd (q.keep kpx)
  | ref q => exact .ref q
  | glob q => exact .glob q
  | raw => exact .raw
  | xt e hd z => exact .xt (kpx.keep _ _ e (fun w => (kpx.tups _ w _).2 _ e) (by rintro ⟨_, q⟩; cases q)) hd (z.keep kpx)
theorem nt_lst (vs : List V) : NT (.lst vs) := NT.lst vs
theorem nt_dK (vs : List (Key × V)) : NT (.dK vs) := NT.dK vs
theorem RepS.updB {A : Addr} {vs vs' : List V} (r : RepS (g.blk A) L S H) (h : H A = some (.lst vs)) (hn : A ∉ L) (h0 : g.H0 A = none) : RepS (g.blk A) L S (upd H A (.lst vs')) := r.updO (nt_lst _) hn h0
theorem Den.updB {A : Addr} {vs' : List V} (r : RepS (g.blk A) L S H) (h : Den (g.blk A) L H d v) : Den (g.blk A) L (upd H A (.lst vs')) d v := Den.updO r h
/-- a state carried into a block -/
theorem blk_inO {A : Addr} {o' : HO} (nt : NT o') (r : RepS g L S H) (n : H A = none) : RepS (g.blk A) L S (upd H A o') := by
  have r1 := r.new1 (o := o') n
  have hA : A ∉ L := fun h => r.free n (.inr h)
  refine blk_rep nt r1 upd_same hA ?_
  refine Paired.imp r.obs fun ob a d => ?_
  have ne : ∀ o, H a = some o → upd H A o' a = some o := fun o e => by rw [upd_ne (ne_of_none e n)]; exact e
  have dk : ∀ {d : D} {v : V}, Den g L H d v → Den (g.blk A) L (upd H A o') d v := fun {d v} h => h.gx r (blk_gx n) (Ext.new1 n)
  cases d with
  | lst e q => exact .lst (ne _ e) (Paired.imp q fun _ _ q => dk q)
  | dct e q => exact .dct (ne _ e) (Paired.imp q fun _ _ q => ⟨q.1, dk q.2⟩)
  | dtt e q => exact .dtt (ne _ e) (Paired.imp q fun _ _ q => ⟨q.1, dk q.2⟩)
  | ins c e q => exact .ins c (ne _ e) (Paired.imp q fun _ _ q => ⟨q.1, dk q.2⟩)
theorem blk_in {A : Addr} (r : RepS g L S H) (n : H A = none) : RepS (g.blk A) L S (upd H A (.lst [])) := blk_inO (nt_lst _) r n
/-- .. and back, the list one of the store's -/
theorem blk_adoptO {A : Addr} {ob : Ob} (r : RepS (g.blk A) L S H) (hw : ∀ a ∈ g.as, g.W a) (hob : ObDen (g.blk A) L H A ob) (hn : A ∉ L) (hW : ¬ g.W A) (h0 : g.H0 A = none) : RepS g (L ++ [A]) (S ++ [ob]) H := by
  have mv : ∀ {d : D} {v : V}, Den (g.blk A) L H d v → Den g (L ++ [A]) H d v := fun {d v} h => by
    cases h with
    | pd q => exact .pd (q.anti fun b w => by
        rcases w with w | w
        · exact .inl (.inl w)
        · rcases List.mem_append.mp w with w | w
          · exact .inr w
          · exact .inl (.inr (by simpa using w)))
    | ref q => exact .ref (by rw [List.getElem?_append_left (List.getElem?_eq_some_iff.mp q).1]; exact q)
    | glob q => exact .glob q
    | raw => exact .raw
    | xt e hd z => exact .xt e hd (z.anti fun b w => by
        rcases w with w | w
        · exact .inl (.inl w)
        · rcases List.mem_append.mp w with w | w
          · exact .inr w
          · exact .inl (.inr (by simpa using w)))
  have mvo : ∀ {a : Addr} {ob : Ob}, ObDen (g.blk A) L H a ob → ObDen g (L ++ [A]) H a ob := fun {a ob} d => by
    cases d with
    | lst e q => exact .lst e (Paired.imp q fun _ _ q => mv q)
    | dct e q => exact .dct e (Paired.imp q fun _ _ q => ⟨q.1, mv q.2⟩)
    | dtt e q => exact .dtt e (Paired.imp q fun _ _ q => ⟨q.1, mv q.2⟩)
    | ins c e q => exact .ins c e (Paired.imp q fun _ _ q => ⟨q.1, mv q.2⟩)
  refine ⟨?_, r.pre.trans (List.prefix_append _ _), Paired.app (Paired.imp r.obs fun ob a d => ?_) (.cons (mvo hob) .nil), fun a ha na => ?_, fun a ha na => ?_, r.keep, fun a w => r.amb a (.inl w), hw, r.th0, r.tabs⟩
  · rw [List.nodup_append]
    refine ⟨r.nd, by simp, fun a ha b hb e => ?_⟩
    have e2 : b = A := by simpa using hb
    subst e e2
    exact hn ha
  · exact mvo d
  · rcases List.mem_append.mp ha with ha | ha
    · exact r.fresh a ha na
    · have e : a = A := by simpa using ha
      rw [e]; exact h0
  · rcases List.mem_append.mp ha with ha | ha
    · exact fun w => r.own a ha na (.inl w)
    · have e : a = A := by simpa using ha
      rw [e]; exact hW
theorem blk_adopt {A : Addr} {ds : List D} {vs : List V} (r : RepS (g.blk A) L S H) (hw : ∀ a ∈ g.as, g.W a) (h : H A = some (.lst vs)) (hn : A ∉ L) (hW : ¬ g.W A) (h0 : g.H0 A = none) (dn : Dens (g.blk A) L H ds vs) : RepS g (L ++ [A]) (S ++ [.lst ds]) H :=
  blk_adoptO r hw (.lst h dn) hn hW h0
end
end DL
end
section
namespace DL
open PySem PySem.Spec PyProof.Rows L2
open Classical
abbrev EN : WX := fun _ _ _ _ => False
section
variable {g g' : G} {E : WX} {L L' L0 : List Addr} {H H' H0 : Hp} {S S' : Sto} {σd : Sl} {σ : L2.St} {v : V} {d : D}
variable {X : Cx} {tg iter elt : Expr} {ifs : List Expr} {scope : Scope} {own : List (Str × Nat)} {pos : Pos} {mw : DM Wk} {gt : TG} {t : TgD} {mt : DM Bool} {me : DM D} {tt : TT} {te : TE}
theorem bindN_ok {α β : Type} {m : Out α} {f : α → Sto → Out β} {b : β} {S : Sto} (h : m.bindN f = .ok b S) : ∃ a S1, m = .ok a S1 ∧ f a S1 = .ok b S := by
  cases m with
  | ok a S1 => exact ⟨a, S1, rfl, h⟩
  | exc e σ S1 => cases h
  | stuck => cases h
theorem lcGo_noexc {gu : Gu} {e : Exn} {σ2 : Sl} : ∀ (l acc : List D) (σ : Sl) (S S' : Sto), lcGo gu t mt me l acc σ S ≠ .exc e σ2 S'
  | [], acc, σ, S, S' => by
    unfold lcGo
    split <;> (intro z; cases z)
  | d :: r, acc, σ, S, S' => by
    unfold lcGo
    split
    · split
      · intro z
        rename_i σ1 e1
        cases q : mt σ1 S with
        | ok k S1 =>
          rw [q] at z
          simp only [Out.bindN_ok] at z
          split at z
          · cases q2 : me σ1 S1 with
            | ok y S2 =>
              rw [q2] at z
              simp only [Out.bindN_ok] at z
              split at z
              · exact lcGo_noexc r _ _ _ _ z
              · cases z
            | exc _ _ _ => rw [q2] at z; cases z
            | stuck => rw [q2] at z; cases z
          · exact lcGo_noexc r _ _ _ _ z
        | exc _ _ _ => rw [q] at z; cases z
        | stuck => rw [q] at z; cases z
      · intro z; cases z
    · intro z; cases z
theorem clr_some : ∀ {vs : List Nat} {i : Nat}, (clr vs σd)[i]? = some (some d) → σd[i]? = some (some d) ∧ i ∉ vs
  | [], i, h => ⟨h, by simp⟩
  | j :: vs, i, h => by
    unfold clr at h
    by_cases e : j = i
    · subst e
      by_cases hl : j < (clr vs σd).length
      · rw [List.getElem?_set_self hl] at h; cases h
      · rw [List.getElem?_eq_none (by rw [List.length_set]; omega)] at h; cases h
    · rw [List.getElem?_set_ne e] at h
      obtain ⟨h1, h2⟩ := clr_some h
      exact ⟨h1, by simp only [List.mem_cons, not_or]; exact ⟨fun z => e z.symm, h2⟩⟩
theorem r1h0 {g : G} {L1 : List Addr} {S1 : Sto} {H1 : Hp} {A : Addr} (r1 : RepS g L1 S1 H1) (hA : H1 A = none) : g.H0 A = none := by
  cases e : g.H0 A with
  | none => rfl
  | some o => exact (r1.h0 hA o e).elim
theorem lc_reads {N : List Str} (hg : TgR g.K N (own.map (·.2)) gt t) (hw : ∀ a ∈ g.as, g.W a → True)
    (htt : ∀ (g' : G), g'.K = g.K → g'.mg = g.mg → ∀ σ H Q, TB g' EN mt σ H Q → tt σ H Q) (hte : ∀ (g' : G), g'.K = g.K → g'.mg = g.mg → ∀ σ H Q, T g' EN me σ H Q → te σ H Q)
    {wi : TI} (hwi : ∀ σ H R, TW g E mw σ H R → wi σ H R) {Q : VK}
    {mk : List D → DM D} (hmk : ∀ A L1 S1 H1 L S H ds vs, RepS g L1 S1 H1 → H1 A = none → Ext g L1 H1 L H → RepS (g.blk A) L S H → H A = some (.lst vs) → Dens (g.blk A) L H ds vs → A ∉ L →
      ∀ σd', Ev g E L1 H1 (mk ds σd' S) (PV g Q) → Q (.ref A) H)
    (h : T g E (mBind (lcAll (own.map (·.2)) mw t mt me) mk) σ H Q) (hNl : σ.length = N.length) : tLc wi gt tt te (own.map (·.2)) σ H Q := by
  obtain ⟨L, σd, S, rp, sl, ev⟩ := h
  generalize hvs : own.map (·.2) = vs at *
  refine hwi σ H _ ⟨L, σd, S, rp, sl, ?_⟩
  have ev' : Ev g E L H ((mw σd S).bind fun wk S' => (lcGo wk.gu t mt me wk.items [] (clr vs σd) S').bind fun ds S2 => mk ds σd S2) (PV g Q) := by
    have e : ((mw σd S).bind fun wk S' => (lcGo wk.gu t mt me wk.items [] (clr vs σd) S').bind fun ds S2 => mk ds σd S2) = mBind (lcAll vs mw t mt me) mk σd S := by
      unfold mBind lcAll
      cases mw σd S <;> rfl
    rw [e]; exact ev
  refine (Ev.bind ev').imp fun wk S1 L1 H1 x1 r1 ev1 J hJ A hA => ?_
  cases elc : lcGo wk.gu t mt me wk.items [] (clr vs σd) S1 with
  | exc e σ2 S2 => exact absurd elc (lcGo_noexc _ _ _ _ _)
  | stuck => rw [elc] at ev1; exact ev1.elim
  | ok dsF SF =>
    rw [elc] at ev1
    have evF : Ev g E L1 H1 (mk dsF σd SF) (PV g Q) := ev1
    have hAL1 : A ∉ L1 := fun h => r1.free hA (.inr h)
    have sl1 := sl.ext rp x1
    refine ⟨fun i m H => ∃ L S ds ws, m = wk.items.length - i ∧ i ≤ wk.items.length ∧ Ext g L1 H1 L H ∧ A ∉ L ∧ RepS (g.blk A) L S H ∧ H A = some (.lst ws) ∧ Dens (g.blk A) L H ds ws ∧ lcGo wk.gu t mt me (wk.items.drop i) ds (clr vs σd) S = .ok dsF SF,
      ⟨_, L1, S1, [], [], rfl, Nat.zero_le _, Ext.new1 hA, hAL1, blk_in r1 hA, upd_same, .nil, by simpa using elc⟩, ?_⟩
    rintro i m H2 ⟨L2, S2, ds, ws, rfl, hi, x2, hAL, r2, eA, dn, el⟩
    have gx := blk_gx (g := g) hA
    cases hd : wk.items.drop i with
    | nil =>
      rw [hd] at el
      unfold lcGo at el
      split at el
      · rename_i gu
        cases el
        have hi2 : i = wk.items.length := by
          have := congrArg List.length hd
          simp at this
          omega
        subst hi2
        exact .inl ⟨(hJ _ L2 _ H2 gx x2 r2 gu).2, hmk A L1 S1 H1 L2 _ H2 _ ws r1 hA x2 r2 eA dn hAL σd evF⟩
      · cases el
    | cons d r =>
      rw [hd] at el
      unfold lcGo at el
      split at el
      · rename_i gu
        have hi2 : i < wk.items.length := by
          have := congrArg List.length hd
          simp at this
          omega
        have ed : wk.items[i]? = some d := by
          have := congrArg (fun l => l[0]?) hd
          simpa [List.getElem?_drop] using this
        have hr : wk.items.drop (i + 1) = r := by
          have := congrArg (List.drop 1) hd
          simpa [List.drop_drop, Nat.add_comm] using this
        obtain ⟨go, yl⟩ := (hJ _ L2 _ H2 gx x2 r2 gu).1 i d ed
        split at el
        · rename_i σ1 e1
          obtain ⟨k, S3, em, el⟩ := bindN_ok el
          refine .inr ⟨go, fun H => ∃ L S ds ws, Ext g L1 H1 L H ∧ A ∉ L ∧ RepS (g.blk A) L S H ∧ H A = some (.lst ws) ∧ Dens (g.blk A) L H ds ws ∧ lcGo wk.gu t mt me (wk.items.drop (i + 1)) ds (clr vs σd) S = .ok dsF SF,
            fun H' ⟨L, S, ds, ws, h1, h2, h3, h4, h5, h6⟩ => ⟨wk.items.length - (i + 1), by omega, L, S, ds, ws, rfl, hi2, h1, h2, h3, h4, h5, h6⟩, fun x H3 hx => ?_⟩
          obtain ⟨x3, r3, dx⟩ := yl x H3 hx
          have eA3 := x3.keep A _ eA (by rintro ⟨_, q⟩; cases q) hAL
          have slw : SlDen (g.blk A) L2 H3 (clr vs σd) (wipe σ vs) := fun j e ej => by
            obtain ⟨e1, hj⟩ := clr_some ej
            obtain ⟨w, ew, dw⟩ := sl1 j e e1
            exact ⟨w, by rw [wipe_out hj]; exact ew, dw.gx r1 gx (x2.trans x3)⟩
          refine hg (g.blk A) L2 S2 H3 x d _ σ1 _ _ rfl r3 slw (by rw [wipe_length]; exact hNl) dx e1 fun σ' sl' hl' out => ?_
          refine ⟨wipe_eq (hl'.trans (wipe_length _ _)) fun j hj => by rw [out j hj, wipe_out hj], ?_⟩
          refine htt (g.blk A) rfl rfl σ' H3 _ ⟨L2, σ1, S2, r3, sl', ?_⟩
          rw [em]
          intro L4 H4 x4 r4
          have hAL4 : A ∉ L4 := fun h => by
            have := x4.new A h hAL
            rw [eA3] at this; cases this
          have eA4 := x4.keep A _ eA3 (by rintro ⟨_, q⟩; cases q) hAL
          have dn4 : Dens (g.blk A) L4 H4 ds ws := Dens.ext r3 x4 (Dens.ext r2 x3.any dn)
          show if k = true then _ else _
          split at el
          · rename_i hk
            obtain ⟨y, S5, ee, el⟩ := bindN_ok el
            split at el
            · rename_i hz
              rw [if_pos hk]
              refine hte (g.blk A) rfl rfl σ' H4 _ ⟨L4, σ1, S3, r4, sl'.ext r3 x4, ?_⟩
              rw [ee]
              intro L5 H5 x5 r5 w dw
              have hAL5 : A ∉ L5 := fun h => by
                have := x5.new A h hAL4
                rw [eA4] at this; cases this
              have eA5 := x5.keep A _ eA4 (by rintro ⟨_, q⟩; cases q) hAL4
              have dn5 : Dens (g.blk A) L5 H5 ds ws := Dens.ext r4 x5 dn4
              refine ⟨ws, eA5, by rw [← Paired.len dn5]; exact hz, L5, S5, ds ++ [y], ws ++ [w], ?_, hAL5, r5.updB eA5 hAL5 (r1h0 r1 hA), upd_same, Paired.app (Paired.imp dn5 fun _ _ q => Den.updB r5 q) (.cons (Den.updB r5 dw) .nil), by rw [hr]; exact el⟩
              exact Ext.upd1 hAL5 eA5 (((x2.trans x3).trans x4.any).trans x5.any) hA
            · cases el
          · rename_i hk
            rw [if_neg hk]
            exact ⟨L4, S3, ds, ws, (x2.trans x3).trans x4.any, hAL4, r4, eA4, dn4, by rw [hr]; exact el⟩
        · cases el
      · cases el

theorem PTs.ex {X : Cx} {K : PySem.W.Frag} {mg : Str → Option Value} {ifs : List Expr} (h : ∀ g' : G, g'.K = K → g'.mg = mg → PTs X ifs (TB g' EN mt)) : PTs X ifs (fun σ H Q => ∃ g' : G, g'.K = K ∧ g'.mg = mg ∧ TB g' EN mt σ H Q) :=
  ⟨fun p s σ H Q I ⟨g', e1, e2, q⟩ => (h g' e1 e2).run p s σ H Q I q⟩
theorem PE.ex {X : Cx} {K : PySem.W.Frag} {mg : Str → Option Value} {e : Expr} (h : ∀ g' : G, g'.K = K → g'.mg = mg → PE X e (T g' EN me)) : PE X e (fun σ H Q => ∃ g' : G, g'.K = K ∧ g'.mg = mg ∧ T g' EN me σ H Q) :=
  ⟨fun p s σ H Q I ⟨g', e1, e2, q⟩ => (h g' e1 e2).run p s σ H Q I q⟩
theorem ptsx_nil {X : Cx} : PTs X [] (TB g EN (mRet true)) := ⟨fun p s σ H Q I ⟨L, σd, S, rp, sl, ev⟩ => pts_nil.run p s σ H Q I (Ev.ok (P := PB Q) (E := EN) (a := true) ev rp)⟩
theorem ptsx_one {X : Cx} {c : Expr} (h : PT X c (TB g EN mt)) : PTs X [c] (TB g EN mt) := pts_one h
theorem mkF_ok {Q : VK} (hw : ∀ a ∈ g.as, g.W a) {A : Addr} {L1 : List Addr} {S1 : Sto} {H1 : Hp} {L : List Addr} {S : Sto} {H : Hp} {ds : List D} {vs : List V} (r1 : RepS g L1 S1 H1) (hA : H1 A = none) (x : Ext g L1 H1 L H) (r : RepS (g.blk A) L S H) (e : H A = some (.lst vs)) (dn : Dens (g.blk A) L H ds vs) (hn : A ∉ L)
    (σd' : Sl) (ev : Ev g E L1 H1 (mkF ds σd' S) (PV g Q)) : Q (.ref A) H := by
  unfold mkF at ev
  split at ev
  · rename_i zs ez
    rw [pdL_eq ez] at dn
    have hno : ¬ g.wr L A := fun w => w.elim (fun w => r1.free hA (.inl w)) hn
    exact ev L H x (blk_back r hw) (.ref A) (.pd (.lst hno (.inl e) ((dens_dz dn).anti fun b w => w.imp .inl id)))
  · exact ev.elim
theorem mkM_ok {Q : VK} (hw : ∀ a ∈ g.as, g.W a) {A : Addr} {L1 : List Addr} {S1 : Sto} {H1 : Hp} {L : List Addr} {S : Sto} {H : Hp} {ds : List D} {vs : List V} (r1 : RepS g L1 S1 H1) (hA : H1 A = none) (x : Ext g L1 H1 L H) (r : RepS (g.blk A) L S H) (e : H A = some (.lst vs)) (dn : Dens (g.blk A) L H ds vs) (hn : A ∉ L)
    (σd' : Sl) (ev : Ev g E L1 H1 (mkM ds σd' S) (PV g Q)) : Q (.ref A) H := by
  unfold mkM at ev
  have hL : S.length = L.length := Paired.len r.obs
  refine ev (L ++ [A]) H ⟨x.pre.trans (List.prefix_append _ _), fun a h na => ?_, x.keep, x.there⟩ (blk_adopt r hw e hn (fun w => r1.free hA (.inl w)) (r1h0 r1 hA) dn) (.ref A) (.ref (by rw [hL]; simp))
  rcases List.mem_append.mp h with h | h
  · exact x.new a h na
  · have : a = A := by simpa using h
    rw [this]; exact hA
theorem PE.len {X : Cx} {e : Expr} {t : TE} (h : PE X e t) : PE X e (fun σ H Q => σ.length = X.N.length → t σ H Q) := ⟨fun p s σ H Q I q => h.run p s σ H Q I (q I.len)⟩
theorem T.asW {m : DM D} {Q : VK} (h : T g E m σ H Q) : ∀ a ∈ g.as, g.W a := let ⟨_, _, _, r, _⟩ := h; r.asW
/-- [e for t in it if ..] -/
theorem px_lc (hK : X.K = g.K) (hmg : X.mg = g.mg) (hc : X.calm = true) (hN : X.N.Nodup) (hi : PI X tg iter (TW g E mw)) (ok : BlkOk X.N X.env.scope scope own)
    (hg : ∀ (s : Shared) (H : Hp) (C : Addr) (cl : List (Str × Addr)) (fp : List Addr), PG (X.blk s H scope (compEnvC scope cl C X.env) fp) tg gt) (tr : TgR X.K X.N (own.map (·.2)) gt t)
    (ht : ∀ (s : Shared) (H : Hp) (C : Addr) (cl : List (Str × Addr)) (fp : List Addr) (g' : G), X.K = g'.K → X.mg = g'.mg → PTs (X.blk s H scope (compEnvC scope cl C X.env) fp) ifs (TB g' EN mt))
    (he : ∀ (s : Shared) (H : Hp) (C : Addr) (cl : List (Str × Addr)) (fp : List Addr) (g' : G), X.K = g'.K → X.mg = g'.mg → PE (X.blk s H scope (compEnvC scope cl C X.env) fp) elt (T g' EN me)) (hs : ∀ x, foldedSetIterable iter X.env x = pure x := by intro _; rfl) :
    PE X (.ListComp elt [⟨tg, iter, ifs, 0⟩] scope pos) (T g E (eLc (own.map (·.2)) mw t mt me)) :=
  PE.imp (PE.len (pe_lc hc hN hi ok hg (fun s H C cl fp => PTs.ex (K := g.K) (mg := g.mg) fun g' e1 e2 => ht s H C cl fp g' (hK.trans e1.symm) (hmg.trans e2.symm)) (fun s H C cl fp => PE.ex (K := g.K) (mg := g.mg) fun g' e1 e2 => he s H C cl fp g' (hK.trans e1.symm) (hmg.trans e2.symm)) hs)) fun σ H Q h hl =>
    lc_reads (N := X.N) (by rw [← hK]; exact tr) (fun _ _ _ => trivial) (fun g' e1 e2 σ H Q q => ⟨g', e1, e2, q⟩) (fun g' e1 e2 σ H Q q => ⟨g', e1, e2, q⟩) (fun _ _ _ q => q)
      (fun A L1 S1 H1 L S H ds vs r1 hA x r e dn hn σd' ev => mkF_ok h.asW r1 hA x r e dn hn σd' ev) h hl
theorem px_lcM (hK : X.K = g.K) (hmg : X.mg = g.mg) (hc : X.calm = true) (hN : X.N.Nodup) (hi : PI X tg iter (TW g E mw)) (ok : BlkOk X.N X.env.scope scope own)
    (hg : ∀ (s : Shared) (H : Hp) (C : Addr) (cl : List (Str × Addr)) (fp : List Addr), PG (X.blk s H scope (compEnvC scope cl C X.env) fp) tg gt) (tr : TgR X.K X.N (own.map (·.2)) gt t)
    (ht : ∀ (s : Shared) (H : Hp) (C : Addr) (cl : List (Str × Addr)) (fp : List Addr) (g' : G), X.K = g'.K → X.mg = g'.mg → PTs (X.blk s H scope (compEnvC scope cl C X.env) fp) ifs (TB g' EN mt))
    (he : ∀ (s : Shared) (H : Hp) (C : Addr) (cl : List (Str × Addr)) (fp : List Addr) (g' : G), X.K = g'.K → X.mg = g'.mg → PE (X.blk s H scope (compEnvC scope cl C X.env) fp) elt (T g' EN me)) (hs : ∀ x, foldedSetIterable iter X.env x = pure x := by intro _; rfl) :
    PE X (.ListComp elt [⟨tg, iter, ifs, 0⟩] scope pos) (T g E (eLcM (own.map (·.2)) mw t mt me)) :=
  PE.imp (PE.len (pe_lc hc hN hi ok hg (fun s H C cl fp => PTs.ex (K := g.K) (mg := g.mg) fun g' e1 e2 => ht s H C cl fp g' (hK.trans e1.symm) (hmg.trans e2.symm)) (fun s H C cl fp => PE.ex (K := g.K) (mg := g.mg) fun g' e1 e2 => he s H C cl fp g' (hK.trans e1.symm) (hmg.trans e2.symm)) hs)) fun σ H Q h hl =>
    lc_reads (N := X.N) (by rw [← hK]; exact tr) (fun _ _ _ => trivial) (fun g' e1 e2 σ H Q q => ⟨g', e1, e2, q⟩) (fun g' e1 e2 σ H Q q => ⟨g', e1, e2, q⟩) (fun _ _ _ q => q)
      (fun A L1 S1 H1 L S H ds vs r1 hA x r e dn hn σd' ev => mkM_ok h.asW r1 hA x r e dn hn σd' ev) h hl
/-- name = [e for ..] on one line -/
theorem qs_setLcG {i : Nat} {y : Str} {py spos : Pos} {mk : List D → DM D} (hmkM : mk = mkF ∨ mk = mkM) (hK : X.K = g.K) (hmg : X.mg = g.mg) (hc : X.calm = true) (hN : X.N.Nodup) (hy : X.N[i]? = some y) (hyl : X.env.scope.names.lookup y = some .local)
    (hsw : swapsWith (.ListComp elt [⟨tg, iter, ifs, 0⟩] scope pos) (some (.Name y py)) spos.line X.env = pure true) (hi : PI X tg iter (TW g E mw)) (ok : BlkOk X.N X.env.scope scope own)
    (hg : ∀ (s : Shared) (H : Hp) (C : Addr) (cl : List (Str × Addr)) (fp : List Addr), PG (X.blk s H scope (compEnvC scope cl C X.env) fp) tg gt) (tr : TgR X.K X.N (own.map (·.2)) gt t)
    (ht : ∀ (s : Shared) (H : Hp) (C : Addr) (cl : List (Str × Addr)) (fp : List Addr) (g' : G), X.K = g'.K → X.mg = g'.mg → PTs (X.blk s H scope (compEnvC scope cl C X.env) fp) ifs (TB g' EN mt))
    (he : ∀ (s : Shared) (H : Hp) (C : Addr) (cl : List (Str × Addr)) (fp : List Addr) (g' : G), X.K = g'.K → X.mg = g'.mg → PE (X.blk s H scope (compEnvC scope cl C X.env) fp) elt (T g' EN me)) (hs : ∀ x, foldedSetIterable iter X.env x = pure x := by intro _; rfl) :
    PS X (.Assign [.Name y py] (.ListComp elt [⟨tg, iter, ifs, 0⟩] scope pos) spos) (TSt g E (sSet i (mBind (lcAll (own.map (·.2)) mw t mt me) mk))) :=
  PS.imp (PS.len (ps_setLc hc hN hy hyl hsw hi ok hg (fun s H C cl fp => PTs.ex (K := g.K) (mg := g.mg) fun g' e1 e2 => ht s H C cl fp g' (hK.trans e1.symm) (hmg.trans e2.symm)) (fun s H C cl fp => PE.ex (K := g.K) (mg := g.mg) fun g' e1 e2 => he s H C cl fp g' (hK.trans e1.symm) (hmg.trans e2.symm)) hs)) fun D σ H h hl => by
    obtain ⟨L, σd, S, rp, sl, ev⟩ := h
    have hl2 : i < σ.length := by rw [hl]; exact (List.getElem?_eq_some_iff.mp hy).1
    have h2 : T g E (mBind (lcAll (own.map (·.2)) mw t mt me) mk) σ H (fun x H1 => gName i x σ H1 D.nx) := ⟨L, σd, S, rp, sl, (Ev.bind ev).imp fun d S' L' H' x r' ev' v dn => ev'.ok r' _ ((sl.ext rp x).put dn i hl2)⟩
    refine lc_reads (N := X.N) (by rw [← hK]; exact tr) (fun _ _ _ => trivial) (fun g' e1 e2 σ H Q q => ⟨g', e1, e2, q⟩) (fun g' e1 e2 σ H Q q => ⟨g', e1, e2, q⟩) (fun _ _ _ q => q)
      (fun A L1 S1 H1 L S H ds vs r1 hA x r e dn hn σd' ev => ?_) h2 hl
    rcases hmkM with rfl | rfl
    · exact mkF_ok h2.asW r1 hA x r e dn hn σd' ev
    · exact mkM_ok h2.asW r1 hA x r e dn hn σd' ev
end
end DL
end
section
namespace DL
open PySem PySem.Spec PyProof.Rows L2
open Classical

/-! ### built-in functions -/
abbrev LF := List D → Sto → Out D
def CallX (X : Cx) (g : G) (f : Value) (op : LF) : Prop :=
  ∀ E : WX, CallR X f (fun xs H Q => ∃ L S ds, RepS g L S H ∧ Dens g L H ds xs ∧ Ev g E L H (op ds S) (PV g Q))
def eCall (op : LF) (ml : DM (List D)) : DM D := mBind ml fun ds => fun _ S => op ds S
section
variable {g g' : G} {E : WX} {L L' L0 : List Addr} {H H' H0 : Hp} {S S' : Sto} {σd : Sl} {σ : L2.St} {v : V} {d : D}
variable {X : Cx} {x : Str} {p p2 pos : Pos} {e a b : Expr} {es : List Expr} {ml : DM (List D)} {ma mb : DM D} {bid Ty : String} {op : LF}
theorem px_callB (hc : CallX X g (.builtin bid) op) (hg : Gl X x) (hm : X.mg x = none) (hv : bootBuiltins x = some (.builtin bid)) (ha : PA X (e :: es) (TL g E ml)) (hn : x ≠ "__name__" := by decide) (hdb : (x == ("__debug__" : Str)) = false := by decide)
    (he : starEach (e :: es) X.env = (false, eval e X.env) :: starEach es X.env := by rfl) (hpl : (backTo pos (starEach es X.env)).any (·.1) = false := by rfl) : PE X (.Call (.Name x p) (e :: es) [] pos) (T g E (eCall op ml)) :=
  PE.imp (pe_callB (hc E) hg hm hv ha hn hdb he hpl) fun σ H Q ⟨L, σd, S, rp, sl, ev⟩ => ⟨L, σd, S, rp, sl, ev.step fun ds S1 L1 H1 x1 r1 ev1 vs dn => ⟨L1, S1, ds, r1, dn, ev1⟩⟩
theorem px_callTy (hc : CallX X g (.type Ty) op) (hg : Gl X x) (hm : X.mg x = none) (hv : bootBuiltins x = some (.type Ty)) (ha : PA X (e :: es) (TL g E ml)) (hn : x ≠ "__name__" := by decide) (hdb : (x == ("__debug__" : Str)) = false := by decide)
    (he : starEach (e :: es) X.env = (false, eval e X.env) :: starEach es X.env := by rfl) (hpl : (backTo pos (starEach es X.env)).any (·.1) = false := by rfl) : PE X (.Call (.Name x p) (e :: es) [] pos) (T g E (eCall op ml)) :=
  PE.imp (pe_callTy (hc E) hg hm hv ha hn hdb he hpl) fun σ H Q ⟨L, σd, S, rp, sl, ev⟩ => ⟨L, σd, S, rp, sl, ev.step fun ds S1 L1 H1 x1 r1 ev1 vs dn => ⟨L1, S1, ds, r1, dn, ev1⟩⟩

def fLen : LF := fun ds S => match ds with
  | [.pd (.str x)] => if x.length ≤ sizeLine then .ok (.int x.length) S else .stuck
  | [.ref n] => match S[n]? with
    | some (.lst xs) => .ok (.int xs.length) S
    | some (.dct xs) => .ok (.int xs.length) S
    | _ => .stuck
  | [d] => match asQ S d with
    | some xs => .ok (.int xs.length) S
    | none => .stuck
  | _ => .stuck
theorem cx_len (hk : X.K = g.K) : CallX X g (.builtin "len") fLen := by
  intro E pins s σ H xs us Q I r h
  obtain ⟨L, S, ds, rp, dn, ev⟩ := h
  unfold fLen at ev
  split at ev
  · cases dn with
    | cons d1 d2 =>
      cases d2
      cases den_str d1
      split at ev
      · rename_i hz
        exact call_len_str pins s σ H _ us Q I r ⟨_, rfl, hz, fin_val rp ev (.pd (.int _))⟩
      · exact ev.elim
  · rename_i n
    cases dn with
    | cons d1 d2 =>
      cases d2
      cases d1 with
      | @ref _ a hn =>
        split at ev
        · rename_i ys hs
          obtain ⟨a', ha, od⟩ := rp.ob hs
          rw [hn] at ha
          cases ha
          cases od with
          | lst q dz => exact call_len_seq pins s σ H _ us Q I r ⟨a, _, rfl, .inl (.inl (.inl q)), fin_val rp ev (by rw [Paired.len dz]; exact .pd (.int _))⟩
        · rename_i ys hs
          obtain ⟨a', ha, od⟩ := rp.ob hs
          rw [hn] at ha
          cases ha
          cases od with
          | @dct _ ws q dz =>
            obtain ⟨u, rfl, ru⟩ := vals1 r
            cases ru
            exact d_len I (.inl q) fun t s' I' => ⟨.int _, H, I', ⟨t, rfl⟩, fin_val rp ev (by rw [Paired.len dz]; exact .pd (.int _))⟩
        · exact ev.elim
  · rename_i d _ _
    cases dn with
    | cons d1 d2 =>
      cases d2
      split at ev
      · rename_i ys ey
        obtain ⟨a, vs, rfl, rd, dz⟩ := asQ_ok rp d1 ey
        rw [← hk] at rd
        exact call_len_seq pins s σ H _ us Q I r ⟨a, _, rfl, rd, fin_val rp ev (by rw [Paired.len dz]; exact .pd (.int _))⟩
      · exact ev.elim
  · exact ev.elim
def fInt : LF := fun ds S => match ds with
  | [.pd (.int i)] => .ok (.int i) S
  | [.pd (.bool k)] => .ok (.int (if k then 1 else 0)) S
  | _ => .stuck
theorem cx_int : CallX X g (.type "int") fInt := by
  intro E pins s σ H xs us Q I r h
  obtain ⟨L, S, ds, rp, dn, ev⟩ := h
  unfold fInt at ev
  split at ev
  · cases dn with
    | cons d1 d2 =>
      cases d2
      cases den_int d1
      exact call_int1 pins s σ H _ us Q I r (.inl ⟨_, rfl, fin_val rp ev (.pd (.int _))⟩)
  · cases dn with
    | cons d1 d2 =>
      cases d2
      cases den_bl d1
      exact call_int1 pins s σ H _ us Q I r (.inr ⟨_, rfl, fin_val rp ev (.pd (.int _))⟩)
  · exact ev.elim
def fAbs : LF := fun ds S => match ds with
  | [.pd (.int i)] => .ok (.int (if i < 0 then -i else i)) S
  | _ => .stuck
theorem cx_abs : CallX X g (.builtin "abs") fAbs := by
  intro E pins s σ H xs us Q I r h
  obtain ⟨L, S, ds, rp, dn, ev⟩ := h
  unfold fAbs at ev
  split at ev
  · cases dn with
    | cons d1 d2 =>
      cases d2
      cases den_int d1
      exact call_abs pins s σ H _ us Q I r ⟨_, rfl, fin_val rp ev (.pd (.int _))⟩
  · exact ev.elim
def fMax2 : LF := fun ds S => match ds with
  | [.pd (.int i), .pd (.int j)] => .ok (.int (if j > i then j else i)) S
  | _ => .stuck
def fMin2 : LF := fun ds S => match ds with
  | [.pd (.int i), .pd (.int j)] => .ok (.int (if j < i then j else i)) S
  | _ => .stuck
theorem cx_max2 (hc : X.calm = true) : CallX X g (.builtin "max") fMax2 := by
  intro E pins s σ H xs us Q I r h
  obtain ⟨L, S, ds, rp, dn, ev⟩ := h
  unfold fMax2 at ev
  split at ev
  · cases dn with
    | cons d1 d2 =>
      cases d2 with
      | cons d2 d3 =>
        cases d3
        cases den_int d1
        cases den_int d2
        exact call_max2 hc pins s σ H _ us Q I r ⟨_, _, rfl, fin_val rp ev (.pd (.int _))⟩
  · exact ev.elim
theorem cx_min2 (hc : X.calm = true) : CallX X g (.builtin "min") fMin2 := by
  intro E pins s σ H xs us Q I r h
  obtain ⟨L, S, ds, rp, dn, ev⟩ := h
  unfold fMin2 at ev
  split at ev
  · cases dn with
    | cons d1 d2 =>
      cases d2 with
      | cons d2 d3 =>
        cases d3
        cases den_int d1
        cases den_int d2
        exact call_min2 hc pins s σ H _ us Q I r ⟨_, _, rfl, fin_val rp ev (.pd (.int _))⟩
  · exact ev.elim
/-- the ints of a list -/
def intsOf (S : Sto) (d : D) : Option (List Int) := match asL S d with
  | some xs => match pdL xs with
    | some zs => intsL zs
    | none => none
  | none => none
theorem intsOf_ok (r : RepS g L S H) (dn : Den g L H d v) {ns : List Int} (e : intsOf S d = some ns) : ∃ a, v = .ref a ∧ Rd H a (.lst (ns.map V.int)) := by
  unfold intsOf at e
  split at e
  · rename_i xs ex
    split at e
    · rename_i zs ez
      obtain ⟨a, vs, rfl, rd, dz⟩ := asL_ok r dn ex
      have z := dens_dz (pdL_eq ez ▸ dz)
      rw [intsL_eq e] at z
      rw [z.ints] at rd
      exact ⟨a, rfl, rd⟩
    · cases e
  · cases e
def leastI : List Int → Int
  | [] => 0
  | [x] => x
  | x :: xs => min x (leastI xs)
def mostI : List Int → Int
  | [] => 0
  | [x] => x
  | x :: xs => max x (mostI xs)
theorem leastI_spec : ∀ {ns : List Int}, ns ≠ [] → leastI ns ∈ ns ∧ ∀ y ∈ ns, leastI ns ≤ y
  | [], h => absurd rfl h
  | [x], _ => ⟨by simp [leastI], fun y hy => by simp at hy; subst hy; exact Int.le_refl _⟩
  | x :: y :: r, _ => by
    obtain ⟨h1, h2⟩ := leastI_spec (ns := y :: r) (by simp)
    have e : leastI (x :: y :: r) = min x (leastI (y :: r)) := rfl
    rw [e]
    refine ⟨?_, fun z hz => ?_⟩
    · rcases Int.le_total x (leastI (y :: r)) with q | q
      · rw [Int.min_eq_left q]; exact List.mem_cons_self
      · rw [Int.min_eq_right q]; exact List.mem_cons_of_mem _ h1
    · rcases List.mem_cons.mp hz with rfl | hz
      · exact Int.min_le_left _ _
      · exact Int.le_trans (Int.min_le_right _ _) (h2 z hz)
theorem mostI_spec : ∀ {ns : List Int}, ns ≠ [] → mostI ns ∈ ns ∧ ∀ y ∈ ns, y ≤ mostI ns
  | [], h => absurd rfl h
  | [x], _ => ⟨by simp [mostI], fun y hy => by simp at hy; subst hy; exact Int.le_refl _⟩
  | x :: y :: r, _ => by
    obtain ⟨h1, h2⟩ := mostI_spec (ns := y :: r) (by simp)
    have e : mostI (x :: y :: r) = max x (mostI (y :: r)) := rfl
    rw [e]
    refine ⟨?_, fun z hz => ?_⟩
    · rcases Int.le_total x (mostI (y :: r)) with q | q
      · rw [Int.max_eq_right q]; exact List.mem_cons_of_mem _ h1
      · rw [Int.max_eq_left q]; exact List.mem_cons_self
    · rcases List.mem_cons.mp hz with rfl | hz
      · exact Int.le_max_left _ _
      · exact Int.le_trans (h2 z hz) (Int.le_max_right _ _)
def fMin1 : LF := fun ds S => match ds with
  | [d] => match intsOf S d with
    | some ns => if ns ≠ [] then .ok (.int (leastI ns)) S else .stuck
    | none => .stuck
  | _ => .stuck
def fMax1 : LF := fun ds S => match ds with
  | [d] => match intsOf S d with
    | some ns => if ns ≠ [] then .ok (.int (mostI ns)) S else .stuck
    | none => .stuck
  | _ => .stuck
def fSum1 : LF := fun ds S => match ds with
  | [d] => match intsOf S d with
    | some ns => .ok (.int ns.sum) S
    | none => .stuck
  | _ => .stuck
theorem cx_min1 (hc : X.calm = true) : CallX X g (.builtin "min") fMin1 := by
  intro E pins s σ H xs us Q I r h
  obtain ⟨L, S, ds, rp, dn, ev⟩ := h
  unfold fMin1 at ev
  split at ev
  · cases dn with
    | cons d1 d2 =>
      cases d2
      split at ev
      · rename_i ns en
        split at ev
        · rename_i hne
          obtain ⟨a, rfl, rd⟩ := intsOf_ok rp d1 en
          refine cr_min hc pins s σ H _ us Q I r ⟨a, ns, rfl, .inl rd, List.length_pos_iff.mpr hne, fun m hm hle => ?_⟩
          obtain ⟨h1, h2⟩ := leastI_spec hne
          have : m = leastI ns := Int.le_antisymm (hle _ h1) (h2 _ hm)
          subst this
          exact fin_val rp ev (.pd (.int _))
        · exact ev.elim
      · exact ev.elim
  · exact ev.elim
theorem cx_max1 (hc : X.calm = true) : CallX X g (.builtin "max") fMax1 := by
  intro E pins s σ H xs us Q I r h
  obtain ⟨L, S, ds, rp, dn, ev⟩ := h
  unfold fMax1 at ev
  split at ev
  · cases dn with
    | cons d1 d2 =>
      cases d2
      split at ev
      · rename_i ns en
        split at ev
        · rename_i hne
          obtain ⟨a, rfl, rd⟩ := intsOf_ok rp d1 en
          refine cr_max hc pins s σ H _ us Q I r ⟨a, ns, rfl, .inl rd, List.length_pos_iff.mpr hne, fun m hm hle => ?_⟩
          obtain ⟨h1, h2⟩ := mostI_spec hne
          have : m = mostI ns := Int.le_antisymm (h2 _ hm) (hle _ h1)
          subst this
          exact fin_val rp ev (.pd (.int _))
        · exact ev.elim
      · exact ev.elim
  · exact ev.elim
theorem cx_sum1 (hc : X.calm = true) : CallX X g (.builtin "sum") fSum1 := by
  intro E pins s σ H xs us Q I r h
  obtain ⟨L, S, ds, rp, dn, ev⟩ := h
  unfold fSum1 at ev
  split at ev
  · cases dn with
    | cons d1 d2 =>
      cases d2
      split at ev
      · rename_i ns en
        obtain ⟨a, rfl, rd⟩ := intsOf_ok rp d1 en
        exact cr_sum hc pins s σ H _ us Q I r ⟨a, ns, rfl, .inl rd, fin_val rp ev (.pd (.int _))⟩
      · exact ev.elim
  · exact ev.elim
def blsL : List PyData → Option (List Bool)
  | [] => some []
  | .bool b :: r => (blsL r).map (b :: ·)
  | _ :: _ => none
theorem blsL_eq : ∀ {ds : List PyData} {xs : List Bool}, blsL ds = some xs → ds = xs.map .bool
  | [], xs, h => by cases h; rfl
  | .bool x :: r, xs, h => by
    rw [blsL] at h
    cases e : blsL r with
    | none => rw [e] at h; cases h
    | some ys => rw [e] at h; cases h; rw [List.map_cons, blsL_eq e]
  | .none :: r, xs, h => by cases h
  | .int _ :: r, xs, h => by cases h
  | .str _ :: r, xs, h => by cases h
  | .list _ :: r, xs, h => by cases h
  | .tuple _ :: r, xs, h => by cases h
  | .dict _ :: r, xs, h => by cases h
@[simp] theorem blsL_map : ∀ xs : List Bool, blsL (xs.map .bool) = some xs
  | [] => rfl
  | x :: xs => by rw [List.map_cons, blsL, blsL_map xs]; rfl
theorem DzAll.bls {K : PySem.W.Frag} {W : Addr → Prop} : ∀ {xs : List Bool} {vs : List V}, DzAll K W H vs (xs.map .bool) → vs = xs.map V.bl
  | [], _, h => by cases h; rfl
  | x :: xs, _, h => by
    cases h with
    | cons h1 h2 => cases h1; rw [DzAll.bls h2]; rfl
def blsOf (S : Sto) (d : D) : Option (List Bool) := match asL S d with
  | some xs => match pdL xs with
    | some zs => blsL zs
    | none => none
  | none => none
theorem blsOf_ok (r : RepS g L S H) (dn : Den g L H d v) {ns : List Bool} (e : blsOf S d = some ns) : ∃ a, v = .ref a ∧ Rd H a (.lst (ns.map V.bl)) := by
  unfold blsOf at e
  split at e
  · rename_i xs ex
    split at e
    · rename_i zs ez
      obtain ⟨a, vs, rfl, rd, dz⟩ := asL_ok r dn ex
      have z := dens_dz (pdL_eq ez ▸ dz)
      rw [blsL_eq e] at z
      rw [z.bls] at rd
      exact ⟨a, rfl, rd⟩
    · cases e
  · cases e
def fAll : LF := fun ds S => match ds with
  | [d] => match blsOf S d with
    | some bs => .ok (.bl (bs.all fun b => b)) S
    | none => .stuck
  | _ => .stuck
def fAny : LF := fun ds S => match ds with
  | [d] => match blsOf S d with
    | some bs => .ok (.bl (bs.any fun b => b)) S
    | none => .stuck
  | _ => .stuck
theorem cx_all (hc : X.calm = true) : CallX X g (.builtin "all") fAll := by
  intro E pins s σ H xs us Q I r h
  obtain ⟨L, S, ds, rp, dn, ev⟩ := h
  unfold fAll at ev
  split at ev
  · cases dn with
    | cons d1 d2 =>
      cases d2
      split at ev
      · rename_i ns en
        obtain ⟨a, rfl, rd⟩ := blsOf_ok rp d1 en
        exact cr_all hc pins s σ H _ us Q I r ⟨a, ns, rfl, .inl rd, fin_val rp ev (.pd (.bl _))⟩
      · exact ev.elim
  · exact ev.elim
theorem cx_any (hc : X.calm = true) : CallX X g (.builtin "any") fAny := by
  intro E pins s σ H xs us Q I r h
  obtain ⟨L, S, ds, rp, dn, ev⟩ := h
  unfold fAny at ev
  split at ev
  · cases dn with
    | cons d1 d2 =>
      cases d2
      split at ev
      · rename_i ns en
        obtain ⟨a, rfl, rd⟩ := blsOf_ok rp d1 en
        exact cr_any hc pins s σ H _ us Q I r ⟨a, ns, rfl, .inl rd, fin_val rp ev (.pd (.bl _))⟩
      · exact ev.elim
  · exact ev.elim
/-- tuple(list), tuple(tuple) -/
def fTuple : LF := fun ds S => match ds with
  | [.pd (.tuple xs)] => .ok (.tup xs) S
  | [d] => match asL S d with
    | some xs => match pdL xs with
      | some zs => .ok (.tup zs) S
      | none => .stuck
    | none => .stuck
  | _ => .stuck
theorem cx_tuple (hk : X.K = g.K) : CallX X g (.type "tuple") fTuple := by
  intro E pins s σ H xs us Q I r h
  obtain ⟨L, S, ds, rp, dn, ev⟩ := h
  unfold fTuple at ev
  split at ev
  · cases dn with
    | cons d1 d2 =>
      cases d2
      obtain ⟨a, vs, rfl, rd, dz⟩ := den_tup d1
      rw [← hk] at rd
      exact call_tuple_of pins s σ H _ us Q I r ⟨a, vs, rfl, .inr ⟨rd, fin_val rp ev d1⟩⟩
  · cases dn with
    | cons d1 d2 =>
      cases d2
      split at ev
      · rename_i ys ey
        split at ev
        · rename_i zs ez
          obtain ⟨a, vs, rfl, rd, dz⟩ := asL_ok rp d1 ey
          have z := dens_dz (pdL_eq ez ▸ dz)
          exact call_tuple_of pins s σ H _ us Q I r ⟨a, vs, rfl, .inl ⟨.inl rd, fin_tup rp ev z⟩⟩
        · exact ev.elim
      · exact ev.elim
  · exact ev.elim
/-- list(list), list(tuple), a list that stays; one of the store's -/
def fList : LF := fun ds S => match ds with
  | [d] => match asQ S d with
    | some xs => match pdL xs with
      | some zs => .ok (.lst zs) S
      | none => .stuck
    | none => .stuck
  | _ => .stuck
def fListM : LF := fun ds S => match ds with
  | [d] => match asQ S d with
    | some xs => .ok (.ref S.length) (S ++ [.lst xs])
    | none => .stuck
  | _ => .stuck
theorem cx_list (hk : X.K = g.K) : CallX X g (.type "list") fList := by
  intro E pins s σ H xs us Q I r h
  obtain ⟨L, S, ds, rp, dn, ev⟩ := h
  unfold fList at ev
  split at ev
  · cases dn with
    | cons d1 d2 =>
      cases d2
      split at ev
      · rename_i ys ey
        split at ev
        · rename_i zs ez
          obtain ⟨a, vs, rfl, rd, dz⟩ := asQ_ok rp d1 ey
          rw [← hk] at rd
          have z := dens_dz (pdL_eq ez ▸ dz)
          exact call_list_of pins s σ H _ us Q I r ⟨a, vs, rfl, rd, fin_lst rp ev z⟩
        · exact ev.elim
      · exact ev.elim
  · exact ev.elim
theorem cx_listM (hk : X.K = g.K) : CallX X g (.type "list") fListM := by
  intro E pins s σ H xs us Q I r h
  obtain ⟨L, S, ds, rp, dn, ev⟩ := h
  unfold fListM at ev
  split at ev
  · cases dn with
    | cons d1 d2 =>
      cases d2
      split at ev
      · rename_i ys ey
        obtain ⟨a, vs, rfl, rd, dz⟩ := asQ_ok rp d1 ey
        rw [← hk] at rd
        exact call_list_of pins s σ H _ us Q I r ⟨a, vs, rfl, rd, fin_lstM rp ev dz⟩
      · exact ev.elim
  · exact ev.elim
/-- isinstance by a built-in class -/
inductive TyN where
  | int | bool | str | tuple | list | dict
def TyN.nm : TyN → String
  | .int => "int" | .bool => "bool" | .str => "str" | .tuple => "tuple" | .list => "list" | .dict => "dict"
def isTy (S : Sto) : TyN → D → Option Bool
  | .int, .pd (.int _) => some true
  | .int, .pd (.bool _) => some true
  | .bool, .pd (.bool _) => some true
  | .str, .pd (.str _) => some true
  | .tuple, .pd (.tuple _) => some true
  | .list, .pd (.list _) => some true
  | .dict, .pd (.dict _) => some true
  | _, .pd _ => some false
  | t, .ref n => match S[n]? with
    | some (.lst _) => match t with
      | .list => some true
      | _ => some false
    | some (.dct _) => match t with
      | .dict => some true
      | _ => some false
    | _ => none
  | _, .glob _ => none
  | _, .xt _ => none
  | _, .raw _ => none
def tyNm : PyData → String
  | .none => "NoneType" | .bool _ => "bool" | .int _ => "int" | .str _ => "str" | .list _ => "list" | .tuple _ => "tuple" | .dict _ => "dict"
theorem dz_ty {K : PySem.W.Frag} {W : Addr → Prop} {d : PyData} (h : Dz K W H v d) : TyX K H v (.type (tyNm d)) := by
  cases h with
  | non => exact .base .non
  | bl b => exact .base (.bl b)
  | int b => exact .base (.int b)
  | str b => exact .base (.str b)
  | lst n r _ =>
    rcases r with r | ⟨o, r⟩
    · exact .base (.lst r)
    · exact .base (.frz r)
  | tup r _ =>
    rcases r with (r | ⟨o, r⟩) | ⟨o, its, n, e, c, _⟩
    · exact .base (.tup r)
    · exact .fTuple r
    · exact .kTuple e c
  | dct n r _ _ =>
    rcases r with r | ⟨o, r⟩
    · exact .base (.dK r)
    · exact .fDict r
def eIsI (t : TyN) (m : DM D) : DM D := mBind m fun d => fun _ S => match isTy S t d with
  | some b => .ok (.bl b) S
  | none => .stuck
theorem kit_all (t : TyN) (d : PyData) : ∃ b, isTy S t (.pd d) = some b ∧ kitB (tyNm d) t.nm = some b := by
  cases t <;> cases d <;> first
    | exact ⟨true, rfl, by show kitB _ _ = some true; simp only [tyNm, TyN.nm]; decide +kernel⟩
    | exact ⟨false, rfl, by show kitB _ _ = some false; simp only [tyNm, TyN.nm]; decide +kernel⟩
theorem px_isi (hk : X.K = g.K) (t : TyN) {y : Str} (hy : y = Str.ofString t.nm) (hg : Gl X "isinstance") (hm : X.mg "isinstance" = none) (hg2 : Gl X y) (hm2 : X.mg y = none) (ha : PE X a (T g E ma))
    (he : starEach [a, .Name y p2] X.env = (false, eval a X.env) :: starEach [.Name y p2] X.env := by rfl) : PE X (.Call (.Name "isinstance" p) [a, .Name y p2] [] pos) (T g E (eIsI t ma)) := by
  have hT : PE X (.Name y p2) (tC (.ty t.nm)) := by
    subst hy
    refine pe_bltn (v := .ty t.nm) (u := .type t.nm) hg2 hm2 ?_ rfl ?_ ?_
    · cases t <;> decide +kernel
    · cases t <;> decide
    · cases t <;> decide
  refine PE.imp (pe_callB call_isi hg hm (by decide +kernel) (pa_cons ha (pa_cons hT pa_nil) he) (by decide) (by decide) he) fun σ H Q ⟨L, σd, S, rp, sl, ev⟩ => ⟨L, σd, S, rp, sl, ev.step fun d S1 L1 H1 x1 r1 ev1 v dn => ?_⟩
  cases eb : isTy S1 t d with
  | none => rw [eb] at ev1; exact ev1.elim
  | some b =>
    rw [eb] at ev1
    have tyx : ∃ nm, TyX X.K H1 v (.type nm) ∧ kitB nm t.nm = some b := by
      cases dn with
      | @pd d _ h =>
        obtain ⟨b', e1, e2⟩ := kit_all (S := S1) t d
        rw [eb] at e1
        cases e1
        exact ⟨_, by rw [hk]; exact dz_ty h, e2⟩
      | @ref n a hn =>
        unfold isTy at eb
        cases hs : S1[n]? with
        | none => simp only [hs] at eb; cases t <;> simp at eb
        | some ob =>
          obtain ⟨a', ha', od⟩ := r1.ob hs
          rw [hn] at ha'
          cases ha'
          cases od with
          | lst q _ =>
            refine ⟨"list", .base (.lst q), ?_⟩
            cases t <;> (simp only [hs] at eb; cases eb; decide +kernel)
          | dct q _ =>
            refine ⟨"dict", .base (.dK q), ?_⟩
            cases t <;> (simp only [hs] at eb; cases eb; decide +kernel)
          | dtt q _ => cases t <;> simp [hs] at eb
          | ins _ q _ => cases t <;> simp [hs] at eb
      | glob h => cases t <;> cases eb
      | xt _ _ _ => cases t <;> cases eb
      | raw => cases t <;> cases eb
    obtain ⟨nm, ty, kb⟩ := tyx
    exact ⟨v, .ty t.nm, .type nm, .type t.nm, b, rfl, .ty _, ty, kit_ty kb, fin_val r1 ev1 (.pd (.bl _))⟩
end
end DL
end
section
namespace DL
open PySem PySem.Spec PyProof.Rows L2
section
variable {g g' : G} {E : WX} {L L' L0 : List Addr} {H H' H0 : Hp} {S S' : Sto} {σd : Sl} {σ : L2.St} {v : V} {d : D}
variable {X : Cx} {x : Str} {p p2 pos : Pos} {e a b : Expr} {es : List Expr} {ml : DM (List D)} {ma mb : DM D} {bid Ty : String} {op : LF}

/-! ### repr -/
def reprOk (x : PyData) : Bool := !x.hasDict && x.showable && decide (x.depth ≤ 60) && decide (x.shown.length ≤ sizeLine)
def fRepr : LF := fun ds S => match ds with
  | [d] => match view S d with
    | some x => if reprOk x = true then .ok (.str x.shown) S else .stuck
    | none => .stuck
  | _ => .stuck
theorem cx_repr (hk : X.K = g.K) (hu : X.A.units + 64 < cLine) (hgd : X.A.guards = some []) : CallX X g (.builtin "repr") fRepr := by
  intro E pins s σ H xs us Q I r h
  obtain ⟨L, S, ds, rp, dn, ev⟩ := h
  unfold fRepr at ev
  split at ev
  · rename_i d
    cases dn with
    | cons d1 d2 =>
      cases d2
      split at ev
      · rename_i x ex
        split at ev
        · rename_i hr
          unfold reprOk at hr
          simp only [Bool.and_eq_true, Bool.not_eq_true', decide_eq_true_eq] at hr
          obtain ⟨⟨⟨h1, h2⟩, h3⟩, h4⟩ := hr
          have dp := view_dz rp d1 ex h1
          rw [← hk] at dp
          obtain ⟨u, rfl, ru⟩ := vals1 r
          have fin : ∀ {u tk h'}, (∀ b o, s.heap.get? b = some o → h'.get? b = some o) → EP X pins σ Q (.str x.shown u) { s with heap := h', toks := tk } := fun {u tk h'} k =>
            ⟨.str x.shown, H, I.kept k, ⟨u, rfl⟩, fin_val rp ev (.pd (.str _))⟩
          cases dp with
          | non => cases ru; exact PySem.P.repr_of_none (fin (h' := s.heap) fun _ _ e => e)
          | bl b => cases ru; exact PySem.P.repr_of_bool (by cases b <;> exact fin (h' := s.heap) fun _ _ e => e)
          | int i =>
            obtain ⟨t, rfl⟩ := ru
            exact PySem.P.repr_of_int (by simpa [PyData.showable] using h2) (fin (h' := s.heap) fun _ _ e => e)
          | str z =>
            obtain ⟨t, rfl⟩ := ru
            exact PySem.P.repr_of_str (fin (h' := s.heap) fun _ _ e => e) h4
          | lst hs ha =>
            obtain ⟨as, rd⟩ := Dp.reads I _ _ u (.lst hs ha) ru
            cases ru
            exact repr_of_reads' rd h2 (fun z => by rw [h1] at z; cases z) hgd (by omega) (fun _ _ e => e) (fun h' u tk k => fin k) h4
          | tup hs ha =>
            obtain ⟨as, rd⟩ := Dp.reads I _ _ u (.tup hs ha) ru
            cases ru
            exact repr_of_reads' rd h2 (fun z => by rw [h1] at z; cases z) hgd (by omega) (fun _ _ e => e) (fun h' u tk k => fin k) h4
        · exact ev.elim
      · exact ev.elim
  · exact ev.elim

/-! ### methods of built-in types -/
abbrev MF := D → List D → Sto → Out D
def MtX (X : Cx) (g : G) (id : String) (op : MF) : Prop :=
  ∀ E : WX, MtM X id (fun x xs H Q => ∃ L S d ds, RepS g L S H ∧ Den g L H d x ∧ Dens g L H ds xs ∧ Ev g E L H (op d ds S) (PV g Q))
def tyD (S : Sto) : D → Option String
  | .pd (.str _) => some "str"
  | .pd (.list _) => some "list"
  | .ref n => match S[n]? with
    | some (.lst _) => some "list"
    | some (.dct _) => some "dict"
    | some (.dtt _) => some "dict"
    | _ => none
  | _ => none
theorem tyD_ok {K : PySem.W.Frag} (hk : K = g.K) (r : RepS g L S H) (dn : Den g L H d v) {t : String} (e : tyD S d = some t) : tyV K t v H := by
  subst hk
  unfold tyD at e
  split at e
  · cases e; cases den_str dn; exact rfl
  · cases e
    obtain ⟨a, vs, rfl, rd, _⟩ := den_lst dn
    exact .inl ⟨rfl, _, .inl rd⟩
  · cases dn with
    | ref hn =>
      split at e
      · rename_i hs
        cases e
        obtain ⟨a, ha, od⟩ := r.ob hs
        rw [hn] at ha
        cases ha
        cases od with
        | lst q _ => exact .inl ⟨rfl, _, SqL.of q⟩
      · rename_i hs
        cases e
        obtain ⟨a, ha, od⟩ := r.ob hs
        rw [hn] at ha
        cases ha
        cases od with
        | dct q _ => exact .inr (.inr (.inl ⟨rfl, .inl ⟨_, q⟩⟩))
      · rename_i hs
        cases e
        obtain ⟨a, ha, od⟩ := r.ob hs
        rw [hn] at ha
        cases ha
        cases od with
        | dtt q _ => exact .inr (.inr (.inl ⟨rfl, .inr ⟨_, q⟩⟩))
      · cases e
  · cases e
def eMeth (t : String) (op : MF) (mo : DM D) (ml : DM (List D)) : DM D := mBind mo fun d => fun σ S => if tyD S d = some t then mBind ml (fun ds => fun _ S => op d ds S) σ S else .stuck
variable {o : Expr} {mo : DM D} {name : Str} {apos cpos : Pos} {Tn id : String} {mop : MF}
theorem px_bm (hk : X.K = g.K) (pa : PlainAttrs Tn) (slot : Slot Tn name id) (hty : typeOf (.builtin id) = pure (.type "method_descriptor")) (hm : MtX X g id mop) (ho : PE X o (T g E mo)) (ha : PA X (e :: es) (TL g E ml))
    (hbase : attributeBase o name X.env (eval o X.env) = eval o X.env := by rfl)
    (hfew : ((backTo cpos (starEach (e :: es) X.env)).all (fun x => !x.1) && (backToKw cpos (keywordEach [] X.env)).all (fun x => x.1.isSome)
      && decide ((e :: es).length + ([] : List Keyword).length + (if ([] : List Keyword).isEmpty then 0 else 1) < 30)) = true := by rfl)
    (hline : (apos.endLine == cpos.line) = true := by rfl) (hs : starEach (e :: es) X.env = (false, eval e X.env) :: starEach es X.env := by rfl) (hplain : (backTo cpos (starEach es X.env)).any (·.1) = false := by rfl) :
    PE X (.Call (.Attribute o name apos) (e :: es) [] cpos) (T g E (eMeth Tn mop mo ml)) :=
  PE.imp (pe_bm pa slot hty (hm E) ho ha hbase hfew hline hs hplain) fun σ H Q ⟨L, σd, S, rp, sl, ev⟩ => ⟨L, σd, S, rp, sl, ev.step fun d S1 L1 H1 x1 r1 ev1 v dn => by
    split at ev1
    · rename_i ht
      exact ⟨tyD_ok hk r1 dn ht, L1, σd, S1, r1, sl.ext rp x1, ev1.step fun ds S2 L2 H2 x2 r2 ev2 vs dns => ⟨L2, S2, d, ds, r2, dn.ext r1 x2, dns, ev2⟩⟩
    · exact ev1.elim⟩
theorem px_bm0 (hk : X.K = g.K) (pa : PlainAttrs Tn) (slot : Slot Tn name id) (hty : typeOf (.builtin id) = pure (.type "method_descriptor")) (hm : MtX X g id mop) (ho : PE X o (T g E mo))
    (hbase : attributeBase o name X.env (eval o X.env) = eval o X.env := by rfl) (hline : (apos.endLine == cpos.line) = true := by rfl) : PE X (.Call (.Attribute o name apos) [] [] cpos) (T g E (eMeth Tn mop mo lNil)) :=
  PE.imp (pe_bm0 pa slot hty (hm E) ho hbase hline) fun σ H Q ⟨L, σd, S, rp, sl, ev⟩ => ⟨L, σd, S, rp, sl, ev.step fun d S1 L1 H1 x1 r1 ev1 v dn => by
    split at ev1
    · rename_i ht
      exact ⟨tyD_ok hk r1 dn ht, L1, S1, d, [], r1, dn, .nil, ev1⟩
    · exact ev1.elim⟩

/-! ### a list of the store changed -/
theorem wr_list {Q : VK} {n : Nat} {a : Addr} {ds' : List D} {vs' : List V} {r : D} {w : V} (rp : RepS g L S H) (hn : L[n]? = some a) (dn' : Dens g L H ds' vs') (dr : Den g L H r w)
    (ev : Ev g E L H (.ok r (S.set n (.lst ds'))) (PV g Q)) : Q w (upd H a (.lst vs')) := by
  have xw : Ext g L H L (upd H a (.lst vs')) := Ext.write hn
  exact ev L _ xw (rp.write hn (by first | exact NT.lst _ | exact NT.dK _ | exact NT.dT _ | exact NT.ins _ _ _) (.lst upd_same (dn'.ext rp xw))) w (dr.ext rp xw)
def lstAt (S : Sto) : D → Option (Nat × List D)
  | .ref n => match S[n]? with
    | some (.lst xs) => some (n, xs)
    | _ => none
  | _ => none
theorem lstAt_ok (r : RepS g L S H) (dn : Den g L H d v) {n : Nat} {xs : List D} (e : lstAt S d = some (n, xs)) : ∃ a vs, v = .ref a ∧ L[n]? = some a ∧ H a = some (.lst vs) ∧ Dens g L H xs vs := by
  unfold lstAt at e
  split at e
  · cases dn with
    | ref hn =>
      split at e
      · rename_i hs
        cases e
        obtain ⟨a, ha, od⟩ := r.ob hs
        rw [hn] at ha
        cases ha
        cases od with
        | lst q ds => exact ⟨_, _, rfl, hn, q, ds⟩
      · cases e
  · cases e
def mAppend : MF := fun d ds S => match ds with
  | [y] => match lstAt S d with
    | some (n, xs) => if xs.length < sizeLine then .ok .non (S.set n (.lst (xs ++ [y]))) else .stuck
    | none => .stuck
  | _ => .stuck
theorem mx_append : MtX X g "list.append" mAppend := by
  intro E pins s σ H x xs v us Q I rx rv h
  obtain ⟨L, S, d, ds, rp, dn, dns, ev⟩ := h
  unfold mAppend at ev
  split at ev
  · rename_i y
    cases dns with
    | cons d1 d2 =>
      cases d2
      split at ev
      · rename_i n zs ez
        split at ev
        · rename_i hz
          obtain ⟨a, vs, rfl, hn, ha, dz⟩ := lstAt_ok rp dn ez
          exact mt_append pins s σ H _ _ v us Q I rx rv ⟨a, vs, _, rfl, rfl, ha, by rw [← Paired.len dz]; exact hz, wr_list rp hn (Dens.app dz (.cons d1 .nil)) (.pd .non) ev⟩
        · exact ev.elim
      · exact ev.elim
  · exact ev.elim
def mPopAt : MF := fun d ds S => match ds with
  | [.pd (.int i)] => match lstAt S d with
    | some (n, xs) => if -(2 ^ 63) ≤ i ∧ i < 2 ^ 63 then (match seqIndex? i xs.length with
      | some k => match xs[k]? with
        | some y => .ok y (S.set n (.lst (xs.eraseIdx k)))
        | none => .stuck
      | none => .stuck) else .stuck
    | none => .stuck
  | _ => .stuck
theorem Paired.eraseIdx {α β : Type} {F : α → β → Prop} : ∀ {l : List α} {l' : List β} (i : Nat), Paired F l l' → Paired F (l.eraseIdx i) (l'.eraseIdx i)
  | _, _, _, .nil => .nil
  | _, _, 0, .cons _ t => t
  | _, _, i + 1, .cons r t => .cons r (Paired.eraseIdx i t)
theorem Paired.dropLast {α β : Type} {F : α → β → Prop} : ∀ {l : List α} {l' : List β}, Paired F l l' → Paired F l.dropLast l'.dropLast
  | _, _, .nil => .nil
  | _, _, .cons _ .nil => .nil
  | _, _, .cons r (.cons r' t) => .cons r (Paired.dropLast (.cons r' t))
theorem mx_popAt : MtX X g "list.pop" mPopAt := by
  intro E pins s σ H x xs v us Q I rx rv h
  obtain ⟨L, S, d, ds, rp, dn, dns, ev⟩ := h
  unfold mPopAt at ev
  split at ev
  · rename_i i
    cases dns with
    | cons d1 d2 =>
      cases d2
      cases den_int d1
      split at ev
      · rename_i n zs ez
        split at ev
        · rename_i hi
          obtain ⟨a, vs, rfl, hn, ha, dz⟩ := lstAt_ok rp dn ez
          split at ev
          · rename_i k hk
            split at ev
            · rename_i y hy
              obtain ⟨w, hw, dw⟩ := Paired.get dz hy
              exact mt_popAt pins s σ H _ _ v us Q I rx rv ⟨a, vs, i, k, w, rfl, rfl, ha, hi.1, hi.2, by rw [← Paired.len dz]; exact hk, hw, wr_list rp hn (Paired.eraseIdx k dz) dw ev⟩
            · exact ev.elim
          · exact ev.elim
        · exact ev.elim
      · exact ev.elim
  · exact ev.elim
def mPop : MF := fun d ds S => match ds with
  | [] => match lstAt S d with
    | some (n, xs) => (match xs[xs.length - 1]? with
        | some y => .ok y (S.set n (.lst xs.dropLast))
        | none => .stuck)
    | none => .stuck
  | _ => .stuck
theorem mx_pop : MtX X g "list.pop" mPop := by
  intro E pins s σ H x xs v us Q I rx rv h
  obtain ⟨L, S, d, ds, rp, dn, dns, ev⟩ := h
  unfold mPop at ev
  split at ev
  · cases dns
    split at ev
    · rename_i n zs ez
      obtain ⟨a, vs, rfl, hn, ha, dz⟩ := lstAt_ok rp dn ez
      split at ev
      · rename_i y hy
        obtain ⟨w, hw, dw⟩ := Paired.get dz hy
        exact mt_pop pins s σ H _ _ v us Q I rx rv ⟨a, vs, w, rfl, rfl, ha, by rw [← Paired.len dz]; exact hw, wr_list rp hn (Paired.dropLast dz) dw ev⟩
      · exact ev.elim
    · exact ev.elim
  · exact ev.elim
def rExtendR : V → List V → Hp → VK → Prop := fun x vs H Q => ∃ l b xs zs, x = .ref l ∧ vs = [.ref b] ∧ H l = some (.lst xs) ∧ Rd H b (.lst zs) ∧ xs.length + zs.length ≤ sizeLine ∧ Q .non (upd H l (.lst (xs ++ zs)))
theorem mt_extendR : MtM X "list.extend" rExtendR := by
  intro pins s σ H x vs v us Q I rx rv h
  obtain ⟨l, b, xs, zs, rfl, rfl, hH, hB, hz, q⟩ := h
  cases rx
  obtain ⟨u, rfl, ru⟩ := rv.one
  cases ru
  obtain ⟨z, its, n, r, hl, e⟩ := I.lstM hH
  obtain ⟨z2, its2, n2, r2, hl2, e2⟩ := I.lstR hB
  have hsz : its.toArray.size + its2.toArray.size ≤ sizeLine := by rw [List.size_toArray, List.size_toArray]; omega
  have hlong : ¬ (!its.toArray.isEmpty && Builtin.List.listTooLong (its.toArray.size + its2.toArray.size)) = true := by
    rw [notLongL hsz, Bool.and_false]
    exact Bool.false_ne_true
  refine call_meets F.slot_list_extend ⟨_, e, rfl⟩ F.entry_list_extend (F.args_list_extend_2 _ _)
    (AutoSeq1.list_extend_list_list_0 l its.toArray n b its2.toArray n2 hlong (by rw [List.size_toArray]; omega) (by omega)) ⟨e, e2, ?_⟩
  refine ⟨.non, _, I.lset (its' := its ++ its2) hH e (by simp) (r.append r2) ?_, rfl, q⟩
  rw [List.length_append]
  omega
def mExtend : MF := fun d ds S => match ds with
  | [y] => match lstAt S d, asL S y with
    | some (n, xs), some zs => if xs.length + zs.length ≤ sizeLine then .ok .non (S.set n (.lst (xs ++ zs))) else .stuck
    | _, _ => .stuck
  | _ => .stuck
theorem mx_extend : MtX X g "list.extend" mExtend := by
  intro E pins s σ H x xs v us Q I rx rv h
  obtain ⟨L, S, d, ds, rp, dn, dns, ev⟩ := h
  unfold mExtend at ev
  split at ev
  · rename_i y
    cases dns with
    | cons d1 d2 =>
      cases d2
      split at ev
      · rename_i n ys zs ez ew
        split at ev
        · rename_i hz
          obtain ⟨a, vs, rfl, hn, ha, dz⟩ := lstAt_ok rp dn ez
          obtain ⟨b, ws, rfl, hb, dw⟩ := asL_ok rp d1 ew
          exact mt_extendR pins s σ H _ _ v us Q I rx rv ⟨a, b, vs, ws, rfl, rfl, ha, hb, by rw [← Paired.len dz, ← Paired.len dw]; exact hz, wr_list rp hn (Dens.app dz dw) (.pd .non) ev⟩
        · exact ev.elim
      · exact ev.elim
  · exact ev.elim
end
end DL
end
section
namespace DL
open PySem PySem.Spec PyProof.Rows L2
open Classical

/-! ### dicts, keys ints or texts -/
def keyD : D → Option Key
  | .pd (.int i) => some (.inl i)
  | .pd (.str x) => some (.inr x)
  | _ => none
def valD (kvs : List (Key × D)) (k : Key) : Option D := (kvs.find? fun kv => decide (kv.1 = k)).map (·.2)
def putD (kvs : List (Key × D)) (k : Key) (v : D) : List (Key × D) := if (kvs.any fun kv => decide (kv.1 = k)) = true then kvs.map (fun kv => if kv.1 = k then (kv.1, v) else kv) else kvs ++ [(k, v)]
def dctAt (S : Sto) : D → Option (Nat × List (Key × D))
  | .ref n => match S[n]? with
    | some (.dct xs) => some (n, xs)
    | _ => none
  | _ => none
section
variable {g g' : G} {E : WX} {L L' L0 : List Addr} {H H' H0 : Hp} {S S' : Sto} {σd : Sl} {σ : L2.St} {v : V} {d : D}
abbrev KvDen (g : G) (L : List Addr) (H : Hp) : List (Key × D) → List (Key × V) → Prop := Paired (fun p q => p.1 = q.1 ∧ Den g L H p.2 q.2)
theorem keyD_ok (dn : Den g L H d v) {k : Key} (e : keyD d = some k) : v = kV k := by
  unfold keyD at e
  split at e
  · cases e; exact den_int dn
  · cases e; exact den_str dn
  · cases e
theorem valD_ok {k : Key} : ∀ {kvs : List (Key × D)} {ws : List (Key × V)}, KvDen g L H kvs ws → (∀ d, valD kvs k = some d → ∃ v, valV ws k = some v ∧ Den g L H d v) ∧ (valD kvs k = none → valV ws k = none)
  | _, _, .nil => ⟨fun d e => (by cases e), fun _ => rfl⟩
  | (a, x) :: r, (b, y) :: r', .cons h t => by
    obtain ⟨e, dn⟩ := h
    have e : a = b := e
    subst e
    by_cases q : a = k
    · refine ⟨fun d e => ?_, fun e => ?_⟩
      · have : valD ((a, x) :: r) k = some x := by simp [valD, List.find?_cons, q]
        rw [this] at e
        cases e
        exact ⟨y, valV_pos q, dn⟩
      · have : valD ((a, x) :: r) k = some x := by simp [valD, List.find?_cons, q]
        rw [this] at e
        cases e
    · have e1 : valD ((a, x) :: r) k = valD r k := by simp [valD, List.find?_cons, q]
      rw [e1, valV_neg q]
      exact valD_ok t
theorem kv_any {k : Key} : ∀ {kvs : List (Key × D)} {ws : List (Key × V)}, KvDen g L H kvs ws → (kvs.any fun kv => decide (kv.1 = k)) = (ws.any fun kv => decide (kv.1 = k))
  | _, _, .nil => rfl
  | (a, x) :: r, (b, y) :: r', .cons h t => by
    have e : a = b := h.1
    subst e
    rw [List.any_cons, List.any_cons, kv_any t]
theorem kv_map {k : Key} {x : D} {y : V} (dn : Den g L H x y) : ∀ {kvs : List (Key × D)} {ws : List (Key × V)}, KvDen g L H kvs ws → KvDen g L H (kvs.map fun kv => if kv.1 = k then (kv.1, x) else kv) (ws.map fun kv => if kv.1 = k then (kv.1, y) else kv)
  | _, _, .nil => .nil
  | (a, x') :: r, (b, y') :: r', .cons h t => by
    obtain ⟨e, dn'⟩ := h
    have e : a = b := e
    subst e
    refine .cons ?_ (kv_map dn t)
    by_cases q : a = k
    · simp only [q, if_true]; exact ⟨trivial, dn⟩
    · simp only [q, if_false]; exact ⟨trivial, dn'⟩
theorem putD_ok {k : Key} {x : D} {y : V} (dn : Den g L H x y) {kvs : List (Key × D)} {ws : List (Key × V)} (h : KvDen g L H kvs ws) : KvDen g L H (putD kvs k x) (putK ws k y) := by
  unfold putD putK
  rw [kv_any h]
  split
  · exact kv_map dn h
  · exact Paired.app h (.cons ⟨rfl, dn⟩ .nil)
theorem KvDen.ext (r : RepS g L S H) (x : Ext g L H L' H') {kvs : List (Key × D)} {ws : List (Key × V)} (h : KvDen g L H kvs ws) : KvDen g L' H' kvs ws := Paired.imp h fun _ _ q => ⟨q.1, q.2.ext r x⟩
theorem dctAt_ok (r : RepS g L S H) (dn : Den g L H d v) {n : Nat} {xs : List (Key × D)} (e : dctAt S d = some (n, xs)) : ∃ a vs, v = .ref a ∧ L[n]? = some a ∧ H a = some (.dK vs) ∧ KvDen g L H xs vs := by
  unfold dctAt at e
  split at e
  · cases dn with
    | ref hn =>
      split at e
      · rename_i hs
        cases e
        obtain ⟨a, ha, od⟩ := r.ob hs
        rw [hn] at ha
        cases ha
        cases od with
        | dct q ds => exact ⟨_, _, rfl, hn, q, ds⟩
      · cases e
  · cases e
variable {X : Cx} {x : Str} {p p2 pos pos' : Pos} {o i e a b value : Expr} {es : List Expr} {ml : DM (List D)} {ma mb mo mi mv : DM D}
/-- d[k] -/
def opDIx : D → D → Sto → Out D := fun x y S => match dctAt S x, keyD y with
  | some (_, kvs), some k => match valD kvs k with
    | some d => .ok d S
    | none => .stuck
  | _, _ => .stuck
theorem px_dix (hu : X.A.units + 1 < cLine) (ho : PE X o (T g E mo)) (hi : PE X i (T g E mi)) (hs : NoSl i := by intro _ _; rfl) : PE X (.Subscript o i pos) (T g E (eOp opDIx mo mi)) :=
  PE.imp (pe_dget hu ho hi hs) fun σ H Q ⟨L, σd, S, rp, sl, ev⟩ => ⟨L, σd, S, rp, sl, ev.step fun dx S1 L1 H1 x1 r1 ev1 x n1 => ⟨L1, σd, S1, r1, sl.ext rp x1, ev1.step fun dy S2 L2 H2 x2 r2 ev2 y n2 => by
    unfold opDIx at ev2
    split at ev2
    · rename_i n kvs k e1 e2
      split at ev2
      · rename_i d ed
        obtain ⟨a, ws, rfl, _, ha, kd⟩ := dctAt_ok r2 (n1.ext r1 x2) e1
        obtain ⟨w, ew, dw⟩ := (valD_ok kd).1 d ed
        exact ⟨a, w, rfl, .inl ⟨ws, k, .inl ha, keyD_ok n2 e2, ew.symm⟩, fin_val r2 ev2 dw⟩
      · exact ev2.elim
    · exact ev2.elim⟩⟩
/-- k in d -/
def opDIn (ne : Bool) : D → D → Sto → Out D := fun y x S => match dctAt S x, keyD y with
  | some (_, kvs), some k => .ok (.bl (ne != (valD kvs k).isSome)) S
  | _, _ => .stuck
theorem din_some {kvs : List (Key × D)} {ws : List (Key × V)} {k : Key} (kd : KvDen g L H kvs ws) : (valV ws k).isSome = (valD kvs k).isSome := by
  cases e : valD kvs k with
  | none => rw [(valD_ok kd).2 e]; rfl
  | some d => obtain ⟨w, ew, _⟩ := (valD_ok kd).1 d e; rw [ew]; rfl
theorem pc_dinX (hu : X.A.units + 1 < cLine) (hi : PE X i (T g E mi)) (ho : PE X o (T g E mo)) : PC X .In i o (T g E (eOp (opDIn false) mi mo)) :=
  ⟨fun pins s σ H Q I ⟨L, σd, S, rp, sl, ev⟩ => (pc_din hu hi ho).run pins s σ H Q I ⟨L, σd, S, rp, sl, ev.step fun dx S1 L1 H1 x1 r1 ev1 x n1 => ⟨L1, σd, S1, r1, sl.ext rp x1, ev1.step fun dy S2 L2 H2 x2 r2 ev2 y n2 => by
    unfold opDIn at ev2
    split at ev2
    · rename_i n kvs k e1 e2
      obtain ⟨a, ws, rfl, _, ha, kd⟩ := dctAt_ok r2 n2 e1
      refine ⟨a, _, rfl, .inl ⟨ws, k, .inl ha, keyD_ok (n1.ext r1 x2) e2, rfl⟩, ?_⟩
      rw [din_some kd]
      exact fin_val r2 ev2 (by cases (valD kvs k).isSome <;> exact .pd (.bl _))
    · exact ev2.elim⟩⟩⟩
theorem pc_dnotinX (hu : X.A.units + 1 < cLine) (hi : PE X i (T g E mi)) (ho : PE X o (T g E mo)) : PC X .NotIn i o (T g E (eOp (opDIn true) mi mo)) :=
  ⟨fun pins s σ H Q I ⟨L, σd, S, rp, sl, ev⟩ => (pc_dnotin hu hi ho).run pins s σ H Q I ⟨L, σd, S, rp, sl, ev.step fun dx S1 L1 H1 x1 r1 ev1 x n1 => ⟨L1, σd, S1, r1, sl.ext rp x1, ev1.step fun dy S2 L2 H2 x2 r2 ev2 y n2 => by
    unfold opDIn at ev2
    split at ev2
    · rename_i n kvs k e1 e2
      obtain ⟨a, ws, rfl, _, ha, kd⟩ := dctAt_ok r2 n2 e1
      refine ⟨a, _, rfl, .inl ⟨ws, k, .inl ha, keyD_ok (n1.ext r1 x2) e2, rfl⟩, ?_⟩
      rw [din_some kd]
      exact fin_val r2 ev2 (by cases (valD kvs k).isSome <;> exact .pd (.bl _))
    · exact ev2.elim⟩⟩⟩
/-- d[k] = e -/
def sDPutD (o i m : DM D) : DM Fl := fun σ S => (m σ S).bind fun d S1 => (o σ S1).bind fun x S2 => (i σ S2).bind fun y S3 => match dctAt S3 x, keyD y with
  | some (n, kvs), some k => if kvs.length < sizeLine then .ok (.next σ) (S3.set n (.dct (putD kvs k d))) else .stuck
  | _, _ => .stuck
theorem qs_dput (hu : X.A.units + 1 < cLine) (ho : PE X o (T g E mo)) (hi : PE X i (T g E mi)) (hv : PE X value (T g E mv)) (hs : swapsWith value (some (.Subscript o i pos')) pos.line X.env = pure false := by rfl) :
    PS X (.Assign [.Subscript o i pos'] value pos) (TSt g E (sDPutD mo mi mv)) :=
  PS.imp (ps_dput hu ho hi hv hs) fun D σ H ⟨L, σd, S, rp, sl, ev⟩ => ⟨L, σd, S, rp, sl, (Ev.bind ev).imp fun d S1 L1 H1 x1 r1 ev1 v dn =>
    ⟨L1, σd, S1, r1, sl.ext rp x1, (Ev.bind ev1).imp fun o S2 L2 H2 x2 r2 ev2 ov no => ⟨L2, σd, S2, r2, (sl.ext rp x1).ext r1 x2, (Ev.bind ev2).imp fun i S3 L3 H3 x3 r3 ev3 iv ni => by
      have sl3 := ((sl.ext rp x1).ext r1 x2).ext r2 x3
      have no3 := no.ext r2 x3
      have dn3 := (dn.ext r1 x2).ext r2 x3
      split at ev3
      · rename_i n kvs k e1 e2
        split at ev3
        · rename_i hz
          obtain ⟨a, ws, rfl, hn, ha, kd⟩ := dctAt_ok r3 no3 e1
          have xw : Ext g L3 H3 L3 (upd H3 a (.dK (putK ws k v))) := Ext.write hn
          refine ⟨a, _, rfl, .inl ⟨ws, k, ha, keyD_ok ni e2, by rw [← Paired.len kd]; exact hz, rfl⟩, ?_⟩
          exact ev3 L3 _ xw (r3.write hn (by first | exact NT.lst _ | exact NT.dK _ | exact NT.dT _ | exact NT.ins _ _ _) (.dct upd_same (putD_ok (dn3.ext r3 xw) (kd.ext r3 xw)))) σ (sl3.ext r3 xw)
        · exact ev3.elim
      · exact ev3.elim⟩⟩⟩
/-- d.get(k) -/
def eDGet1 (mo mi : DM D) : DM D := mBind mo fun x => fun σ S => if (dctAt S x).isSome = true then mBind mi (fun y => fun _ S2 => match dctAt S2 x, keyD y with
  | some (_, kvs), some k => .ok ((valD kvs k).getD .non) S2
  | _, _ => .stuck) σ S else .stuck
theorem px_dget1 {apos cpos : Pos} (hu : X.A.units + 1 < cLine) (ho : PE X o (T g E mo)) (he : PE X e (T g E mi)) (m : M1 X o "get" apos e cpos) : PE X (.Call (.Attribute o "get" apos) [e] [] cpos) (T g E (eDGet1 mo mi)) :=
  PE.imp (pe_dget1 hu ho he m) fun σ H Q ⟨L, σd, S, rp, sl, ev⟩ => ⟨L, σd, S, rp, sl, ev.step fun dx S1 L1 H1 x1 r1 ev1 x n1 => by
    split at ev1
    · rename_i hs
      cases e1 : dctAt S1 dx with
      | none => rw [e1] at hs; cases hs
      | some q =>
        obtain ⟨n, kvs⟩ := q
        obtain ⟨a, ws, rfl, hn, ha, kd⟩ := dctAt_ok r1 n1 e1
        refine ⟨a, rfl, .inl ⟨ws, .inl ha⟩, L1, σd, S1, r1, sl.ext rp x1, ev1.step fun dy S2 L2 H2 x2 r2 ev2 y n2 => ?_⟩
        split at ev2
        · rename_i n' kvs' k e2 e3
          obtain ⟨a', ws', ea, _, ha', kd'⟩ := dctAt_ok r2 (n1.ext r1 x2) e2
          cases ea
          refine ⟨_, .inl ⟨ws', k, .inl ha', keyD_ok n2 e3, rfl⟩, ?_⟩
          cases ev : valD kvs' k with
          | none => rw [ev] at ev2; rw [(valD_ok kd').2 ev]; exact fin_val r2 ev2 (.pd .non)
          | some d =>
            rw [ev] at ev2
            obtain ⟨w, ew, dw⟩ := (valD_ok kd').1 d ev
            rw [ew]
            exact fin_val r2 ev2 dw
        · exact ev2.elim
    · exact ev1.elim⟩

/-! ### dict comprehensions -/
noncomputable def dcGo (gu : Gu) (t : TgD) (tt : DM Bool) (tk tv : DM D) : List D → List (Key × D) → Sl → Sto → Out (List (Key × D))
  | [], acc, _, S => if gu.ok S then .ok acc S else .stuck
  | d :: r, acc, σ, S => if gu.ok S then (match t d σ with
    | some σ1 => (tt σ1 S).bindN fun b S1 => if b = true then (tk σ1 S1).bindN fun y S2 => (tv σ1 S2).bindN fun z S3 => (match keyD y with
        | some k => if acc.length < sizeLine then dcGo gu t tt tk tv r (putD acc k z) σ S3 else .stuck
        | none => .stuck) else dcGo gu t tt tk tv r acc σ S1
    | none => .stuck) else .stuck
noncomputable def dcAll (vs : List Nat) (w : DM Wk) (t : TgD) (tt : DM Bool) (tk tv : DM D) : DM (List (Key × D)) := fun σ S => (w σ S).bind fun wk S' => match dcGo wk.gu t tt tk tv wk.items [] (clr vs σ) S' with
  | .ok kvs S2 => .ok kvs S2
  | _ => .stuck
def mkDct : List (Key × D) → DM D := fun kvs _ S => .ok (.ref S.length) (S ++ [.dct kvs])
noncomputable def eDc (vs : List Nat) (w : DM Wk) (t : TgD) (tt : DM Bool) (tk tv : DM D) : DM D := mBind (dcAll vs w t tt tk tv) mkDct
variable {tg iter kx vx : Expr} {ifs : List Expr} {scope : Scope} {own : List (Str × Nat)} {mw : DM Wk} {gt : TG} {t : TgD} {mt : DM Bool} {mk mx : DM D} {tt : TT} {tk tv : TE}
theorem KvDen.updO {A : Addr} {o' : HO} (r : RepS (g.blk A) L S H) {kvs : List (Key × D)} {ws : List (Key × V)} (h : KvDen (g.blk A) L H kvs ws) : KvDen (g.blk A) L (upd H A o') kvs ws := Paired.imp h fun _ _ q => ⟨q.1, Den.updO r q.2⟩
theorem dc_reads {N : List Str} (hg : TgR g.K N (own.map (·.2)) gt t)
    (htt : ∀ (g' : G), g'.K = g.K → g'.mg = g.mg → ∀ σ H Q, TB g' EN mt σ H Q → tt σ H Q) (htk : ∀ (g' : G), g'.K = g.K → g'.mg = g.mg → ∀ σ H Q, T g' EN mk σ H Q → tk σ H Q) (htv : ∀ (g' : G), g'.K = g.K → g'.mg = g.mg → ∀ σ H Q, T g' EN mx σ H Q → tv σ H Q)
    {wi : TI} (hwi : ∀ σ H R, TW g E mw σ H R → wi σ H R) {Q : VK}
    (h : T g E (eDc (own.map (·.2)) mw t mt mk mx) σ H Q) (hNl : σ.length = N.length) : tDc wi gt tt tk tv (own.map (·.2)) σ H Q := by
  have haw := h.asW
  obtain ⟨L, σd, S, rp, sl, ev⟩ := h
  generalize hvs : own.map (·.2) = vs at *
  refine hwi σ H _ ⟨L, σd, S, rp, sl, ?_⟩
  have ev' : Ev g E L H ((mw σd S).bind fun wk S' => (match dcGo wk.gu t mt mk mx wk.items [] (clr vs σd) S' with
      | .ok kvs S2 => mkDct kvs σd S2
      | _ => .stuck)) (PV g Q) := by
    have e : ((mw σd S).bind fun wk S' => (match dcGo wk.gu t mt mk mx wk.items [] (clr vs σd) S' with
      | .ok kvs S2 => mkDct kvs σd S2
      | _ => .stuck)) = eDc vs mw t mt mk mx σd S := by
      unfold eDc mBind dcAll
      cases mw σd S with
      | ok wk S' =>
        simp only [Out.bind_ok]
        cases dcGo wk.gu t mt mk mx wk.items [] (clr vs σd) S' <;> rfl
      | exc e σ2 S2 => rfl
      | stuck => rfl
    rw [e]; exact ev
  refine (Ev.bind ev').imp fun wk S1 L1 H1 x1 r1 ev1 J hJ A hA => ?_
  cases elc : dcGo wk.gu t mt mk mx wk.items [] (clr vs σd) S1 with
  | exc e σ2 S2 => rw [elc] at ev1; exact ev1.elim
  | stuck => rw [elc] at ev1; exact ev1.elim
  | ok dsF SF =>
    rw [elc] at ev1
    have evF : Ev g E L1 H1 (mkDct dsF σd SF) (PV g Q) := ev1
    have hAL1 : A ∉ L1 := fun h => r1.free hA (.inr h)
    have sl1 := sl.ext rp x1
    have gx := blk_gx (g := g) hA
    refine ⟨fun i m H => ∃ L S ds ws, m = wk.items.length - i ∧ i ≤ wk.items.length ∧ Ext g L1 H1 L H ∧ A ∉ L ∧ RepS (g.blk A) L S H ∧ H A = some (.dK ws) ∧ KvDen (g.blk A) L H ds ws ∧ dcGo wk.gu t mt mk mx (wk.items.drop i) ds (clr vs σd) S = .ok dsF SF,
      ⟨_, L1, S1, [], [], rfl, Nat.zero_le _, Ext.new1 hA, hAL1, blk_inO (nt_dK _) r1 hA, upd_same, .nil, by simpa using elc⟩, ?_⟩
    rintro i m H2 ⟨L2, S2, ds, ws, rfl, hi, x2, hAL, r2, eA, dn, el⟩
    cases hd : wk.items.drop i with
    | nil =>
      rw [hd] at el
      unfold dcGo at el
      split at el
      · rename_i gu
        cases el
        have hi2 : i = wk.items.length := by
          have := congrArg List.length hd
          simp at this
          omega
        subst hi2
        refine .inl ⟨(hJ _ L2 _ H2 gx x2 r2 gu).2, ?_⟩
        unfold mkDct at evF
        have hL : SF.length = L2.length := Paired.len r2.obs
        refine evF (L2 ++ [A]) H2 ⟨x2.pre.trans (List.prefix_append _ _), fun a h na => ?_, x2.keep, x2.there⟩ (blk_adoptO r2 haw (.dct eA dn) hAL (fun w => r1.free hA (.inl w)) (r1h0 r1 hA)) (.ref A) (.ref (by rw [hL]; simp))
        rcases List.mem_append.mp h with h | h
        · exact x2.new a h na
        · have : a = A := by simpa using h
          rw [this]; exact hA
      · cases el
    | cons d r =>
      rw [hd] at el
      unfold dcGo at el
      split at el
      · rename_i gu
        have hi2 : i < wk.items.length := by
          have := congrArg List.length hd
          simp at this
          omega
        have ed : wk.items[i]? = some d := by
          have := congrArg (fun l => l[0]?) hd
          simpa [List.getElem?_drop] using this
        have hr : wk.items.drop (i + 1) = r := by
          have := congrArg (List.drop 1) hd
          simpa [List.drop_drop, Nat.add_comm] using this
        obtain ⟨go, yl⟩ := (hJ _ L2 _ H2 gx x2 r2 gu).1 i d ed
        split at el
        · rename_i σ1 e1
          obtain ⟨k, S3, em, el⟩ := bindN_ok el
          refine .inr ⟨go, fun H => ∃ L S ds ws, Ext g L1 H1 L H ∧ A ∉ L ∧ RepS (g.blk A) L S H ∧ H A = some (.dK ws) ∧ KvDen (g.blk A) L H ds ws ∧ dcGo wk.gu t mt mk mx (wk.items.drop (i + 1)) ds (clr vs σd) S = .ok dsF SF,
            fun H' ⟨L, S, ds, ws, h1, h2, h3, h4, h5, h6⟩ => ⟨wk.items.length - (i + 1), by omega, L, S, ds, ws, rfl, hi2, h1, h2, h3, h4, h5, h6⟩, fun x H3 hx => ?_⟩
          obtain ⟨x3, r3, dx⟩ := yl x H3 hx
          have eA3 := x3.keep A _ eA (by rintro ⟨_, q⟩; cases q) hAL
          have slw : SlDen (g.blk A) L2 H3 (clr vs σd) (wipe σ vs) := fun j e ej => by
            obtain ⟨e1, hj⟩ := clr_some ej
            obtain ⟨w, ew, dw⟩ := sl1 j e e1
            exact ⟨w, by rw [wipe_out hj]; exact ew, dw.gx r1 gx (x2.trans x3)⟩
          refine hg (g.blk A) L2 S2 H3 x d _ σ1 _ _ rfl r3 slw (by rw [wipe_length]; exact hNl) dx e1 fun σ' sl' hl' out => ?_
          refine ⟨wipe_eq (hl'.trans (wipe_length _ _)) fun j hj => by rw [out j hj, wipe_out hj], ?_⟩
          refine htt (g.blk A) rfl rfl σ' H3 _ ⟨L2, σ1, S2, r3, sl', ?_⟩
          rw [em]
          intro L4 H4 x4 r4
          have hAL4 : A ∉ L4 := fun h => by
            have := x4.new A h hAL
            rw [eA3] at this; cases this
          have eA4 := x4.keep A _ eA3 (by rintro ⟨_, q⟩; cases q) hAL
          have dn4 : KvDen (g.blk A) L4 H4 ds ws := KvDen.ext r3 x4 (KvDen.ext r2 x3.any dn)
          show if k = true then _ else _
          split at el
          · rename_i hk
            obtain ⟨y, S5, ee, el⟩ := bindN_ok el
            obtain ⟨z, S6, ee2, el⟩ := bindN_ok el
            split at el
            · rename_i ky eky
              split at el
              · rename_i hz
                rw [if_pos hk]
                refine htk (g.blk A) rfl rfl σ' H4 _ ⟨L4, σ1, S3, r4, sl'.ext r3 x4, ?_⟩
                rw [ee]
                intro L5 H5 x5 r5 w dw
                have hAL5 : A ∉ L5 := fun h => by
                  have := x5.new A h hAL4
                  rw [eA4] at this; cases this
                have eA5 := x5.keep A _ eA4 (by rintro ⟨_, q⟩; cases q) hAL4
                have dn5 : KvDen (g.blk A) L5 H5 ds ws := KvDen.ext r4 x5 dn4
                refine htv (g.blk A) rfl rfl σ' H5 _ ⟨L5, σ1, S5, r5, (sl'.ext r3 x4).ext r4 x5, ?_⟩
                rw [ee2]
                intro L6 H6 x6 r6 w6 dw6
                have hAL6 : A ∉ L6 := fun h => by
                  have := x6.new A h hAL5
                  rw [eA5] at this; cases this
                have eA6 := x6.keep A _ eA5 (by rintro ⟨_, q⟩; cases q) hAL5
                have dn6 : KvDen (g.blk A) L6 H6 ds ws := KvDen.ext r5 x6 dn5
                refine ⟨ws, ky, keyD_ok dw eky, eA6, by rw [← Paired.len dn6]; exact hz, L6, S6, putD ds ky z, putK ws ky w6, ?_, hAL6, r6.updO (nt_dK _) hAL6 (r1h0 r1 hA), upd_same, KvDen.updO r6 (putD_ok dw6 dn6), by rw [hr]; exact el⟩
                exact Ext.upd1 hAL6 eA6 ((((x2.trans x3).trans x4.any).trans x5.any).trans x6.any) hA
              · cases el
            · cases el
          · rename_i hk
            rw [if_neg hk]
            exact ⟨L4, S3, ds, ws, (x2.trans x3).trans x4.any, hAL4, r4, eA4, dn4, by rw [hr]; exact el⟩
        · cases el
      · cases el
/-- {k: v for t in it if ..} -/
theorem px_dc (hK : X.K = g.K) (hmg : X.mg = g.mg) (hc : X.calm = true) (hN : X.N.Nodup) (hi : PI X tg iter (TW g E mw)) (ok : BlkOk X.N X.env.scope scope own)
    (hg : ∀ (s : Shared) (H : Hp) (C : Addr) (cl : List (Str × Addr)) (fp : List Addr), PG (X.blk s H scope (compEnvC scope cl C X.env) fp) tg gt) (tr : TgR X.K X.N (own.map (·.2)) gt t)
    (ht : ∀ (s : Shared) (H : Hp) (C : Addr) (cl : List (Str × Addr)) (fp : List Addr) (g' : G), X.K = g'.K → X.mg = g'.mg → PTs (X.blk s H scope (compEnvC scope cl C X.env) fp) ifs (TB g' EN mt))
    (hk : ∀ (s : Shared) (H : Hp) (C : Addr) (cl : List (Str × Addr)) (fp : List Addr) (g' : G), X.K = g'.K → X.mg = g'.mg → PE (X.blk s H scope (compEnvC scope cl C X.env) fp) kx (T g' EN mk))
    (he : ∀ (s : Shared) (H : Hp) (C : Addr) (cl : List (Str × Addr)) (fp : List Addr) (g' : G), X.K = g'.K → X.mg = g'.mg → PE (X.blk s H scope (compEnvC scope cl C X.env) fp) vx (T g' EN mx)) (hs : ∀ x, foldedSetIterable iter X.env x = pure x := by intro _; rfl) :
    PE X (.DictComp kx vx [⟨tg, iter, ifs, 0⟩] scope pos) (T g E (eDc (own.map (·.2)) mw t mt mk mx)) :=
  PE.imp (PE.len (pe_dc hc hN hi ok hg (fun s H C cl fp => PTs.ex (K := g.K) (mg := g.mg) fun g' e1 e2 => ht s H C cl fp g' (hK.trans e1.symm) (hmg.trans e2.symm)) (fun s H C cl fp => PE.ex (K := g.K) (mg := g.mg) fun g' e1 e2 => hk s H C cl fp g' (hK.trans e1.symm) (hmg.trans e2.symm))
    (fun s H C cl fp => PE.ex (K := g.K) (mg := g.mg) fun g' e1 e2 => he s H C cl fp g' (hK.trans e1.symm) (hmg.trans e2.symm)) hs)) fun σ H Q h hl =>
    dc_reads (N := X.N) (by rw [← hK]; exact tr) (fun g' e1 e2 σ H Q q => ⟨g', e1, e2, q⟩) (fun g' e1 e2 σ H Q q => ⟨g', e1, e2, q⟩) (fun g' e1 e2 σ H Q q => ⟨g', e1, e2, q⟩) (fun _ _ _ q => q) h hl
end
end DL
end
section
namespace DL
open PySem PySem.Spec PyProof.Rows L2
/-! ### tuple * int, any int -/
theorem tuple_mul_same (l : Addr) (items : Array Value) (n : Nat) (x : Int) (u : Tok) (c0 : (decide (x < -(2 ^ 63)) || decide (x ≥ 2 ^ 63)) = false) (c1 : (items.isEmpty || x == 1) = true) :
    Meets (Builtin.«tuple.__mul__» ⟨[.ref l, .int x u], []⟩) (fun _ R s => (∃ o, s.heap.get? l = some o ∧ o.cls = .type "tuple" ∧ o.data = .seq items n) ∧
      R (.ok (.ret (Value.ref l))) s) :=
  .of_wp fun prog w A R s h => by
    obtain ⟨hp, g, d, tk, os⟩ := s
    obtain ⟨⟨⟨cls, dd, data, sl⟩, hl, hc, hd⟩, h⟩ := h
    simp only at hc hd
    subst hc hd
    have f1 := AutoSeq1.idx_int
    wp_walk using wpAny_loadPart' hl
    repeat (first
      | (refine wpAny_ite_false (decide_eq_false (by rw [c0]; exact Bool.false_ne_true)) ?_; wp_walk using wpAny_loadPart' hl)
      | (refine wpAny_ite_true (decide_eq_true (by rw [c1])) ?_; wp_walk using wpAny_loadPart' hl))
    exact ⟨_, rfl, h⟩
theorem tuple_mul_none (l : Addr) (items : Array Value) (n : Nat) (x : Int) (u : Tok) (c0 : (decide (x < -(2 ^ 63)) || decide (x ≥ 2 ^ 63)) = false) (c1 : (items.isEmpty || x == 1) = false) (c2 : (decide (x ≤ 0) || items.isEmpty) = true) :
    Meets (Builtin.«tuple.__mul__» ⟨[.ref l, .int x u], []⟩) (fun _ R s => (∃ o, s.heap.get? l = some o ∧ o.cls = .type "tuple" ∧ o.data = .seq items n) ∧
      R (.ok (.ret (Value.ref s.heap.objs.size))) { s with heap := s.heap.push { cls := Value.type "tuple", data := Data.seq #[] } }) :=
  .of_wp fun prog w A R s h => by
    obtain ⟨hp, g, d, tk, os⟩ := s
    obtain ⟨⟨⟨cls, dd, data, sl⟩, hl, hc, hd⟩, h⟩ := h
    simp only at hc hd
    subst hc hd
    have f1 := AutoSeq1.idx_int
    wp_walk using wpAny_loadPart' hl
    repeat (first
      | (refine wpAny_ite_false (decide_eq_false (by rw [c0]; exact Bool.false_ne_true)) ?_; wp_walk using wpAny_loadPart' hl)
      | (refine wpAny_ite_false (decide_eq_false (by rw [c1]; exact Bool.false_ne_true)) ?_; wp_walk using wpAny_loadPart' hl)
      | (refine wpAny_ite_true (decide_eq_true (by rw [c2])) ?_; wp_walk using wpAny_loadPart' hl))
    exact ⟨_, rfl, h⟩
section
variable {X : Cx}
def rRepT0 (K : PySem.W.Frag) : R2 := fun x y H Q => ∃ l k xs, x = .ref l ∧ y = .int k ∧ SqT K H l xs ∧ -(2 ^ 63) ≤ k ∧ k < 2 ^ 63 ∧ (((xs = [] ∨ k = 1) ∧ Q x H) ∨ (xs ≠ [] ∧ k ≤ 0 ∧ ∀ p, H p = none → Q (.ref p) (upd H p (.tup []))))
theorem op_repT0 : OpR X (binaryOp .Mult) (rRepT0 X.K) := by
  intro pins s σ H x y v u Q I rx ry h
  obtain ⟨l, k, xs, rfl, rfl, hT, h1, h2, q⟩ := h
  cases rx
  obtain ⟨t, rfl⟩ := ry
  obtain ⟨its, r, ⟨⟨cls, dd, data, sl⟩, ho, hc, n, hd⟩, hs⟩ := I.tuple hT
  simp only at hc hd
  subst hc hd
  have hle : its.length = xs.length := r.length.symm
  have c0 : (decide (k < -(2 ^ 63)) || decide (k ≥ 2 ^ 63)) = false := by
    rw [decide_eq_false (by omega), decide_eq_false (by omega)] <;> rfl
  rcases q with ⟨hc, q⟩ | ⟨hne, hk, q⟩
  · have c1 : (its.toArray.isEmpty || k == 1) = true := by
      rcases hc with rfl | rfl
      · cases r; rfl
      · simp
    exact wpAny_binaryOp_repeat_ref (T := "tuple") (U := "int") (by decide) ⟨_, ho, rfl⟩ (fun s' => typeIs_int s' k t) noFill_tuple_mul F.fills_int_mul F.slot_int_rmul repeat_tuple F.slot_int_index.lookup
      (call_meets F.slot_int_rmul (typeIs_int s k t) F.entry_int_rmul (F.args_int_rmul_2 _ _) (int_rmul_tuple k t l its.toArray n dd sl)
        ⟨ho, rfl, ⟨_, ho, rfl⟩, call_meets F.slot_tuple_mul ⟨_, ho, rfl⟩ F.entry_tuple_mul (F.args_tuple_mul_2 _ _) (tuple_mul_same l its.toArray n k t c0 c1) ⟨⟨_, ho, rfl, rfl⟩, .ref l, H, I, rfl, q⟩⟩)
  · have hi : its.toArray.isEmpty = false := by
      cases its with
      | nil => exact absurd (List.eq_nil_of_length_eq_zero hle.symm) hne
      | cons a b => rfl
    have c1 : (its.toArray.isEmpty || k == 1) = false := by
      rw [hi, Bool.false_or]
      exact beq_eq_false_iff_ne.mpr (by omega)
    have c2 : (decide (k ≤ 0) || its.toArray.isEmpty) = true := by
      rw [decide_eq_true hk]; rfl
    exact wpAny_binaryOp_repeat_ref (T := "tuple") (U := "int") (by decide) ⟨_, ho, rfl⟩ (fun s' => typeIs_int s' k t) noFill_tuple_mul F.fills_int_mul F.slot_int_rmul repeat_tuple F.slot_int_index.lookup
      (call_meets F.slot_int_rmul (typeIs_int s k t) F.entry_int_rmul (F.args_int_rmul_2 _ _) (int_rmul_tuple k t l its.toArray n dd sl)
        ⟨ho, rfl, ⟨_, ho, rfl⟩, call_meets F.slot_tuple_mul ⟨_, ho, rfl⟩ F.entry_tuple_mul (F.args_tuple_mul_2 _ _) (tuple_mul_none l its.toArray n k t c0 c1 c2) ⟨⟨_, ho, rfl, rfl⟩,
          .ref s.heap.objs.size, _, I.laid (t' := s.toks) (o := .tup []) (fun b ob q => Heap.get?_push_of_some _ q) (Nat.le_refl _) ⟨Nat.zero_le _, [], .nil, IsTup.new _ _⟩, rfl, q _ (I.hok.fresh (Nat.le_refl _))⟩⟩)
variable {g : G}
def opMul2 : D → D → Sto → Out D := fun x y S => match x, y with
  | .pd (.tuple xs), .pd (.int k) => if -(2 ^ 63) ≤ k ∧ k < 2 ^ 63 then (if xs = [] ∨ k = 1 then .ok (.tup xs) S else if k ≤ 0 then .ok (.tup []) S else opMul (.tup xs) (.int k) S) else .stuck
  | x, y => opMul x y S
theorem ox_mul2 (hk : X.K = g.K) : OpX X g (binaryOp .Mult) opMul2 := by
  intro E pins s σ H x y v u Q I rx ry h
  obtain ⟨L, S, dx, dy, r, nx, ny, ev⟩ := h
  unfold opMul2 at ev
  split at ev
  · rename_i xs k
    split at ev
    · rename_i hb
      split at ev
      · rename_i hc
        obtain ⟨a, vs, rfl, ha, za⟩ := den_tup nx
        have hcv : vs = [] ∨ k = 1 := hc.imp (fun e => List.length_eq_zero_iff.mp (by rw [za.len, e]; rfl)) id
        cases den_int ny
        rw [← hk] at ha
        exact op_repT0 pins s σ H _ _ v u Q I rx ry ⟨a, k, vs, rfl, rfl, ha, hb.1, hb.2, .inl ⟨hcv, fin_val r ev nx⟩⟩
      · rename_i hc
        split at ev
        · rename_i hk0
          obtain ⟨a, vs, rfl, ha, za⟩ := den_tup nx
          have hne : vs ≠ [] := fun e => hc (.inl (List.length_eq_zero_iff.mp (by rw [← za.len, e]; rfl)))
          cases den_int ny
          rw [← hk] at ha
          exact op_repT0 pins s σ H _ _ v u Q I rx ry ⟨a, k, vs, rfl, rfl, ha, hb.1, hb.2, .inr ⟨hne, hk0, fin_tup r ev .nil⟩⟩
        · exact ox_mul hk E pins s σ H x y v u Q I rx ry ⟨L, S, _, _, r, nx, ny, ev⟩
    · exact ev.elim
  · exact ox_mul hk E pins s σ H x y v u Q I rx ry ⟨L, S, _, _, r, nx, ny, ev⟩

/-! ### name op= e -/
def opAddI : D → D → Sto → Out D := fun x y S => match x, y with
  | .pd (.int i), .pd (.int j) => .ok (.int (i + j)) S
  | _, _ => .stuck
def opSubI : D → D → Sto → Out D := fun x y S => match x, y with
  | .pd (.int i), .pd (.int j) => .ok (.int (i - j)) S
  | _, _ => .stuck
def opMulI : D → D → Sto → Out D := fun x y S => match x, y with
  | .pd (.int i), .pd (.int j) => if i.natAbs < 2 ^ 64 ∨ j.natAbs < 2 ^ 64 then .ok (.int (i * j)) S else .stuck
  | _, _ => .stuck
theorem oi_add : OpX X g (inplaceOp .Add) opAddI := by
  intro E pins s σ H x y v u Q I rx ry h
  obtain ⟨L, S, dx, dy, r, nx, ny, ev⟩ := h
  unfold opAddI at ev
  split at ev
  · cases den_int nx; cases den_int ny
    exact iop_add pins s σ H _ _ v u Q I rx ry ⟨_, _, rfl, rfl, fin_val r ev (.pd (.int _))⟩
  · exact ev.elim
theorem oi_sub : OpX X g (inplaceOp .Sub) opSubI := by
  intro E pins s σ H x y v u Q I rx ry h
  obtain ⟨L, S, dx, dy, r, nx, ny, ev⟩ := h
  unfold opSubI at ev
  split at ev
  · cases den_int nx; cases den_int ny
    exact iop_sub pins s σ H _ _ v u Q I rx ry ⟨_, _, rfl, rfl, fin_val r ev (.pd (.int _))⟩
  · exact ev.elim
theorem oi_mul : OpX X g (inplaceOp .Mult) opMulI := by
  intro E pins s σ H x y v u Q I rx ry h
  obtain ⟨L, S, dx, dy, r, nx, ny, ev⟩ := h
  unfold opMulI at ev
  split at ev
  · split at ev
    · rename_i hz
      cases den_int nx; cases den_int ny
      exact iop_mul pins s σ H _ _ v u Q I rx ry ⟨_, _, rfl, rfl, hz.imp (fun h => by omega) (fun h => by omega), fin_val r ev (.pd (.int _))⟩
    · exact ev.elim
  · exact ev.elim
end
end DL
end
section
namespace DL
open PySem PySem.Spec PyProof.Rows L2
open PySem.W (AllAlike Sortable dataLe SortsAt EachIs)
open Classical

/-! ### sorted(list), sorted(tuple) -/
section
variable {prog : Program} {w : World} {A : Around} {E : Value → Shared → Prop} {s : Shared}
theorem collect_tup {l : Addr} {vs : List Value} {Q : List Value → Shared → Prop} (hl : IsTup s.heap l vs.toArray)
    (h : Q vs { s with heap := (s.heap.push (seqObj "list" #[] 0)).update s.heap.objs.size (Obj.mapSeq (· ++ vs.toArray)) }) (hsz : vs.length ≤ sizeLine) :
    wpAny (model prog w) A (collect (.ref l)) Q E s := by
  obtain ⟨o, ho, hc, n, hd⟩ := id hl
  unfold collect
  refine wpAny_bind (wpAny_runValue (codeAny_builtin entry_proto_collect' ?_))
  show wpAny _ _ (do again (.builtin "list.__iadd__" ⟨[← newList [], .ref l], []⟩)) _ _ s
  refine wpAny_bind (wpAny_newList (wpAny_pure ⟨Code.quiet_builtin _ (by decide +kernel), codeAny_builtin entry_list_iadd' ?_⟩))
  show wpAny _ _ (Builtin.List.listExtendWith (.ref s.heap.objs.size) (.ref l) (.ref s.heap.objs.size)) _ _ { s with heap := s.heap.push (seqObj "list" #[] 0) }
  unfold Builtin.List.listExtendWith
  have ho' : (s.heap.push (seqObj "list" #[] 0)).get? l = some o := Heap.get?_push_of_some _ ho
  refine wpAny_bind (wpAny_typeOf (T := "tuple") ⟨o, ho', hc⟩ ?_)
  have ht : (Value.type "tuple" == Value.type "tuple") = true := by rfl
  rw [if_pos (by rw [ht]; simp)]
  refine wpAny_bind (listItems_at ho' hd ?_)
  refine wpAny_bind (listItems_at (xs := #[]) (n := 0) (Heap.get?_push_size _ rfl) rfl ?_)
  rw [if_neg (by simp)]
  refine wpAny_bind (listUpdate_at (xs := #[]) (n := 0) (Heap.get?_push_size _ rfl) rfl ?_ (Nat.zero_le _) (by show (#[] ++ vs.toArray).size ≤ sizeLine + 1; simp only [Array.size_append, List.size_toArray, List.length_nil]; omega))
  refine wpAny_pure ?_
  show wpAny (model prog w) A (do
      let o ← load s.heap.objs.size
      match o.data with
      | .seq xs _ => pure xs.toList
      | _ => unsupported "internal:collect") Q E { s with heap := (s.heap.push (seqObj "list" #[] 0)).update s.heap.objs.size (Obj.mapSeq (· ++ vs.toArray)) }
  refine wpAny_bind (wpAny_load (get?_update_seq (Heap.get?_push_size _ rfl) _) ?_)
  show wpAny _ _ (pure ((#[] : Array Value) ++ vs.toArray).toList) Q E _
  rw [show ((#[] : Array Value) ++ vs.toArray).toList = vs by simp]
  exact wpAny_pure h
theorem sorted_tup_of_sort {l : Addr} {vs : List Value} {kw : List (Str × Value)} {Q : Value → Shared → Prop} (hl : IsTup s.heap l vs.toArray) (hL : vs.length ≤ sizeLine) (ha1 : argsOk "sorted" ⟨[.ref l], kw⟩) (ha2 : ∀ x, argsOk "list.sort" ⟨[.ref x], kw⟩)
    (body : ∀ E' : Value → Shared → Prop, wpAny (model prog w) A.in1.in1 (Builtin.«list.sort» ⟨[.ref (s.heap.objs.size + 1)], kw⟩) (fun f s' => f = .done (.ret .none) ∧ Q (.ref (s.heap.objs.size + 1)) s') E' { s with heap := PySem.W.copyHeap s.heap vs }) :
    wpAny (model prog w) A (call (.builtin "sorted") [.ref l] kw) Q E s := by
  refine call_function_entry_kw kind_sorted plain_sorted entry_sorted ha1 ?_
  unfold Builtin.«sorted»
  refine wpAny_bind (m := checkCount "sorted" 1 1 _) (wpAny_pure ?_)
  refine wpAny_bind (collect_tup hl ?_ hL)
  refine wpAny_bind (wpAny_newList ?_ hL)
  have hsz : ((s.heap.push (seqObj "list" #[] 0)).update s.heap.objs.size (Obj.mapSeq (· ++ vs.toArray))).objs.size = s.heap.objs.size + 1 := by
    rw [Heap.size_update, size_push']
  show wpAny _ _ _ _ _ { s with heap := PySem.W.copyHeap s.heap vs }
  rw [hsz]
  refine wpAny_bind (wpAny_holding (wpAny_call_entry_kw slot_list_sort ⟨_, PySem.W.copyHeap_at s.heap vs, rfl⟩ entry_list_sort ?body (ha2 _)))
  case body =>
    show wpAny (model prog w) A.in1.in1 (Builtin.«list.sort» ⟨[.ref (s.heap.objs.size + 1)], kw⟩) _ _ _
    refine wpAny_mono (body _) (fun f s' hf => ?_) fun _ _ e => e
    obtain ⟨rfl, hq⟩ := hf
    exact ⟨_, rfl, wpAny_pure ⟨_, rfl, hq⟩⟩
variable {β : Type} {vs : List Value} {bs : List β} {enc : β → PyData} {R : Value → β → Prop}
theorem sorted_tup_data {l : Addr} {Q : Value → Shared → Prop} (hl : IsTup s.heap l vs.toArray) (e : EachIs R vs bs) (er : EachIs (fun v b => ∃ as, Reads s.heap v (enc b) as) vs bs) (hal : AllAlike (bs.map enc)) (hk : Sortable (bs.map enc)) (hL : bs.length ≤ sizeLine)
    (hu : ∀ b, b ∈ bs → A.units + 2 + (enc b).depth < cLine) (h : ∀ out, out.length = bs.length → EachIs R out (bs.mergeSort (dataLe false enc)) → Q (.ref (s.heap.objs.size + 1)) { s with heap := sortedAll s.heap vs (List.toArray out) }) :
    wpAny (model prog w) A (call (.builtin "sorted") [.ref l]) Q E s := by
  have er' : EachIs (fun v b => ∃ as, Reads (PySem.W.sortingHeap (PySem.W.copyHeap s.heap vs) (s.heap.objs.size + 1) vs) v (enc b) as) vs bs := er.mono fun _ _ ⟨as, r⟩ => ⟨as, PyProof.Rows.Reads.keeps (fun _ _ => PySem.W.sorting_copy_old) r⟩
  have S : SortsAt prog w A.in1.in1 { s with heap := PySem.W.sortingHeap (PySem.W.copyHeap s.heap vs) (s.heap.objs.size + 1) vs } _ vs := SortsAt.data (s := { s with heap := PySem.W.sortingHeap (PySem.W.copyHeap s.heap vs) (s.heap.objs.size + 1) vs }) (PySem.W.each_map (R := fun v d => ∃ as, Reads (PySem.W.sortingHeap (PySem.W.copyHeap s.heap vs) (s.heap.objs.size + 1) vs) v d as) enc er') hal hk (PySem.W.bound_map hu)
  have hL' : vs.length ≤ sizeLine := by rw [e.length]; exact hL
  exact sorted_tup_of_sort hl hL' (args_sorted1 _) (fun _ => args_list_sort _) fun _ => PySem.W.list_sort_vals (s := { s with heap := PySem.W.copyHeap s.heap vs }) (PySem.W.copyHeap_at s.heap vs) S hL'
    ⟨rfl, h _ (by rw [PySem.W.sortVals_length false rfl]; exact e.length) (PySem.W.sortVals_data false e er' hal)⟩
end
section
variable {X : Cx}
abbrev sortLe : V × PyData → V × PyData → Bool := dataLe false (fun p : V × PyData => p.2)
theorem eachZip {h : Heap} {P : V → Value → PyData → Prop} : ∀ {xs : List V} {us : List Value} {ds : List PyData}, Vals xs us → (xs.length = ds.length) → (∀ v u d, (v, d) ∈ xs.zip ds → RelV v u → P v u d) → EachIs (fun u b => P b.1 u b.2) us (xs.zip ds)
  | [], _, [], .nil, _, _ => .nil
  | x :: xs, _, d :: ds, .cons r t, hl, f => .cons (f x _ d List.mem_cons_self r) (eachZip (h := h) t (by simpa using hl) fun v u d hm => f v u d (List.mem_cons_of_mem _ hm))
theorem eachVals {bs : List (V × PyData)} : ∀ {us : List Value}, EachIs (fun u (b : V × PyData) => RelV b.1 u) us bs → Vals (bs.map (·.1)) us := by
  intro us h
  induction h with
  | nil => exact .nil
  | cons h t ih => exact .cons h ih
theorem zip_dp {K : PySem.W.Frag} {H : Hp} : ∀ {xs : List V} {ds : List PyData}, DpAll K H xs ds → ∀ v d, (v, d) ∈ xs.zip ds → Dp K H v d
  | _, _, .nil, v, d, h => by cases h
  | _, _, .cons h t, v, d, hm => by
    rcases List.mem_cons.mp hm with e | hm
    · cases e; exact h
    · exact zip_dp t v d hm
theorem dpAll_len {K : PySem.W.Frag} {H : Hp} : ∀ {xs : List V} {ds : List PyData}, DpAll K H xs ds → xs.length = ds.length
  | _, _, .nil => rfl
  | _, _, .cons h t => by rw [List.length_cons, List.length_cons, dpAll_len t]
def rSortedD (K : PySem.W.Frag) : List V → Hp → VK → Prop := fun vs H Q => ∃ (a : Addr) (xs : List V) (ds : List PyData), vs = [V.ref a] ∧ (SqL K H a xs ∨ SqT K H a xs) ∧ DpAll K H xs ds ∧ AllAlike ds ∧ Sortable ds ∧ (∀ d ∈ ds, d.depth ≤ 60) ∧
  ∀ p, H p = none → Q (.ref p) (upd H p (.lst (((xs.zip ds).mergeSort sortLe).map (·.1))))
theorem cr_sortedD (hu : X.A.units + 64 < cLine) : CallR X (.builtin "sorted") (rSortedD X.K) := by
  intro pins s σ H vs us Q I r h
  obtain ⟨a, xs, ds, rfl, hs, hd, hal, hk, hdp, q⟩ := h
  rw [Vals.ref1 r]
  have hlen := dpAll_len hd
  have hmap : (xs.zip ds).map (fun p => p.2) = ds := by rw [List.map_snd_zip]; omega
  have fin : ∀ (its : List Value), Vals xs its → xs.length ≤ sizeLine → ∀ out : List Value, EachIs (fun u (b : V × PyData) => RelV b.1 u) out ((xs.zip ds).mergeSort (dataLe false fun p => p.2)) →
      EP X pins σ Q (.ref (s.heap.objs.size + 1)) { s with heap := sortedAll s.heap its (List.toArray out) } := fun its rv hz out ho => by
    obtain ⟨ep, he'⟩ := PyProof.Rows.sortedAll_at s.heap its out.toArray
    refine ⟨.ref _, upd H (s.heap.objs.size + 1) (.lst (((xs.zip ds).mergeSort sortLe).map (·.1))), I.laid (t' := s.toks) (fun _ _ => PyProof.Rows.sortedAll_old) (Nat.le_succ _) ⟨?_, out, ep, eachVals ho, he'⟩, rfl, q _ (I.hok.fresh (Nat.le_succ _))⟩
    rw [List.length_map, (List.mergeSort_perm _ _).length_eq, List.length_zip]
    omega
  have hb : ∀ b, b ∈ xs.zip ds → X.A.units + 2 + b.2.depth < cLine := fun b hb => by
    have := hdp b.2 (List.of_mem_zip hb).2
    omega
  rcases hs with hs | hs
  · obtain ⟨its, rv, hl, hz⟩ := I.list hs
    exact PySem.W.sorted_data (β := V × PyData) (enc := fun p => p.2) (R := fun u b => RelV b.1 u) hl.isList (eachZip (h := s.heap) (P := fun v u d => RelV v u) rv hlen fun v u d _ h => h)
      (eachZip (h := s.heap) (P := fun v u d => ∃ as, Reads s.heap u d as) rv hlen fun v u d hm h => Dp.reads I d v u (zip_dp hd v d hm) h) (by rw [hmap]; exact hal) (by rw [hmap]; exact hk) (by rw [List.length_zip]; omega) hb fun out _ ho => fin its rv hz out ho
  · obtain ⟨its, rv, hl, hz⟩ := I.tuple hs
    exact sorted_tup_data (β := V × PyData) (enc := fun p => p.2) (R := fun u b => RelV b.1 u) hl (eachZip (h := s.heap) (P := fun v u d => RelV v u) rv hlen fun v u d _ h => h)
      (eachZip (h := s.heap) (P := fun v u d => ∃ as, Reads s.heap u d as) rv hlen fun v u d hm h => Dp.reads I d v u (zip_dp hd v d hm) h) (by rw [hmap]; exact hal) (by rw [hmap]; exact hk) (by rw [List.length_zip]; omega) hb fun out _ ho => fin its rv hz out ho
end
section
variable {X : Cx} {g : G} {E : WX} {L : List Addr} {H : Hp} {S : Sto} {d : D} {v : V}
def sortOk (zs : List PyData) : Prop := PyData.hasDictAll zs = false ∧ AllAlike zs ∧ Sortable zs ∧ ∀ d ∈ zs, d.depth ≤ 60
def sortD (zs : List PyData) : List PyData := zs.mergeSort (dataLe false id)
noncomputable def fSorted : LF := fun ds S => match ds with
  | [d] => match asQ S d with
    | some xs => match pdL xs with
      | some zs => if sortOk zs then .ok (.lst (sortD zs)) S else .stuck
      | none => .stuck
    | none => .stuck
  | _ => .stuck
theorem zip_dz {K : PySem.W.Frag} {W : Addr → Prop} {H : Hp} : ∀ {xs : List V} {ds : List PyData}, DzAll K W H xs ds → ∀ p, p ∈ xs.zip ds → Dz K W H p.1 p.2
  | _, _, .nil, p, h => by cases h
  | _, _, .cons h t, p, hm => by
    rcases List.mem_cons.mp hm with e | hm
    · cases e; exact h
    · exact zip_dz t p hm
theorem dz_of {K : PySem.W.Frag} {W : Addr → Prop} {H : Hp} : ∀ {bs : List (V × PyData)}, (∀ p ∈ bs, Dz K W H p.1 p.2) → DzAll K W H (bs.map (·.1)) (bs.map (·.2))
  | [], _ => .nil
  | b :: bs, h => .cons (h b List.mem_cons_self) (dz_of fun p hp => h p (List.mem_cons_of_mem _ hp))
theorem sort_dz {K : PySem.W.Frag} {W : Addr → Prop} {H : Hp} {xs : List V} {ds : List PyData} (h : DzAll K W H xs ds) : DzAll K W H (((xs.zip ds).mergeSort sortLe).map (·.1)) (sortD ds) := by
  have e : ((xs.zip ds).mergeSort sortLe).map (·.2) = sortD ds := by
    unfold sortD
    rw [show ((xs.zip ds).mergeSort sortLe).map (fun x => x.2) = ((xs.zip ds).map (fun x => x.2)).mergeSort (dataLe false id) from List.map_mergeSort fun a _ b _ => rfl]
    congr 1
    rw [List.map_snd_zip]
    rw [h.len]; exact Nat.le_refl _
  rw [← e]
  exact dz_of fun p hp => zip_dz h p ((List.mergeSort_perm _ _).mem_iff.mp hp)
theorem cx_sorted (hk : X.K = g.K) (hu : X.A.units + 64 < cLine) : CallX X g (.builtin "sorted") fSorted := by
  intro E pins s σ H xs us Q I r h
  obtain ⟨L, S, ds, rp, dn, ev⟩ := h
  unfold fSorted at ev
  split at ev
  · cases dn with
    | cons d1 d2 =>
      cases d2
      split at ev
      · rename_i ys ey
        split at ev
        · rename_i zs ez
          split at ev
          · rename_i hz
            obtain ⟨a, vs, rfl, rd, dz⟩ := asQ_ok rp d1 ey
            rw [← hk] at rd
            have z := dens_dz (pdL_eq ez ▸ dz)
            exact cr_sortedD hu pins s σ H _ us Q I r ⟨a, vs, zs, rfl, rd, by rw [hk]; exact z.dp hz.1, hz.2.1, hz.2.2.1, hz.2.2.2, fin_lst rp ev (sort_dz z)⟩
          · exact ev.elim
        · exact ev.elim
      · exact ev.elim
  · exact ev.elim
end
end DL
end
section
namespace DL
open PySem PySem.Spec PyProof.Rows L2
open Classical

/-! ### a, *rest = .. (the star last) -/
section
variable {prog : Program} {w : World} {A : Around} {E : Value → Shared → Prop} {s : Shared}
theorem star_list {l : Addr} {items : Array Value} {i : Nat} {Q : List Value → Shared → Prop} (hl : s.heap.IsList l items) (hh : A.handled = none) (hi : i ≤ items.size) (hz : items.size ≤ sizeLine)
    (h : ∀ (h' : Heap) tk, (∀ b o, s.heap.get? b = some o → h'.get? b = some o) → Q (items.toList.take i ++ [.ref h'.objs.size]) { s with heap := h'.push { cls := .type "list", data := .seq (items.toList.drop i).toArray }, toks := tk }) :
    wpAny (model prog w) A (unpackItems (.ref l) (i + 1) (some i)) Q E s := by
  have hlt : l ≠ s.heap.objs.size := by obtain ⟨o, ho, _⟩ := hl; exact Nat.ne_of_lt (Heap.lt_size ho)
  unfold unpackItems
  refine wpAny_bind ?_
  unfold notIterableAtAll
  refine wpAny_bind (wpAny_specialOf hl.typeIs slot_list_iter.lookup ?_)
  refine wpAny_pure ?_
  simp only [Bool.false_eq_true, if_false]
  refine wpAny_bind (wpAny_holding (wpAny_pyIter_list hl ?_))
  refine wpAny_bind (wpAny_holding (PySem.W.kun_draw hlt i 0 _ _ ⟨_, Heap.get?_push_size _ rfl, rfl, rfl⟩ (hl.push _) (by omega) fun h₁ hit₁ hs₁ => ?_))
  have hl₁ : h₁.IsList l items := (hl.push _).extBut hs₁.extBut hlt
  rw [Nat.zero_add] at hit₁
  have hit₁' := hit₁
  obtain ⟨oi, hoi, _⟩ := hit₁'
  have hl₁' := hl₁
  obtain ⟨ol, hol, _⟩ := hl₁'
  rw [List.drop_zero]
  have hfl : (items.toList.take i).length = i := by rw [List.length_take, Array.length_toList]; omega
  rw [if_neg (show ¬ ((items.toList.take i).length < i) by rw [hfl]; omega)]
  refine wpAny_bind (wpAny_holding (PySem.W.kun_collect (s := { s with heap := h₁ }) (T := "list_iterator") (.inr (.inr (.inl rfl))) (Walks.list (A := A.in1) hh s.heap.objs.size l hlt items) (fun j u st => st.1.typeIs) (k := i) hi ⟨hit₁, hl₁⟩ (Heap.lt_size hoi) (Heap.lt_size hol) (fun h₂ tk hk => ?_) hz))
  have hsub : i + 1 - 1 - i = 0 := by omega
  show wpAny _ _ (if (items.toList.drop i).length < i + 1 - 1 - i then _ else _) _ _ _
  rw [if_neg (by rw [hsub]; omega)]
  show wpAny _ _ (newList ((items.toList.drop i).take ((items.toList.drop i).length - (i + 1 - 1 - i))) >>= fun d => pure (items.toList.take i ++ [d] ++ (items.toList.drop i).drop ((items.toList.drop i).length - (i + 1 - 1 - i)))) _ _ _
  rw [hsub, Nat.sub_zero, List.take_length, List.drop_length]
  refine wpAny_bind (wpAny_newList (wpAny_pure ?_) (by rw [List.length_drop, Array.length_toList]; omega))
  rw [List.append_nil]
  exact h h₂ tk fun b o e => hk b o (Nat.ne_of_lt (Heap.lt_size e)) (hs₁.extBut b o (Nat.ne_of_lt (Heap.lt_size e)) (Heap.get?_push_of_some _ e))
theorem star_tup {l : Addr} {items : Array Value} {i : Nat} {Q : List Value → Shared → Prop} (hl : IsTup s.heap l items) (hh : A.handled = none) (hi : i ≤ items.size) (hz : items.size ≤ sizeLine)
    (h : ∀ (h' : Heap) tk, (∀ b o, s.heap.get? b = some o → h'.get? b = some o) → Q (items.toList.take i ++ [.ref h'.objs.size]) { s with heap := h'.push { cls := .type "list", data := .seq (items.toList.drop i).toArray }, toks := tk }) :
    wpAny (model prog w) A (unpackItems (.ref l) (i + 1) (some i)) Q E s := by
  have hlt : l ≠ s.heap.objs.size := by obtain ⟨o, ho, _⟩ := hl; exact Nat.ne_of_lt (Heap.lt_size ho)
  unfold unpackItems
  refine wpAny_bind ?_
  unfold notIterableAtAll
  refine wpAny_bind (wpAny_specialOf hl.typeIs slot_tuple_iter.lookup ?_)
  refine wpAny_pure ?_
  simp only [Bool.false_eq_true, if_false]
  refine wpAny_bind (wpAny_holding (iter_tuple hl ?_))
  refine wpAny_bind (wpAny_holding (draw_tuple hlt i 0 _ _ ⟨_, Heap.get?_push_size _ rfl, rfl, rfl⟩ (hl.push _) (by omega) fun h₁ hit₁ hs₁ => ?_))
  have hl₁ : IsTup h₁ l items := (hl.push _).extBut hs₁.extBut hlt
  rw [Nat.zero_add] at hit₁
  have hit₁' := hit₁
  obtain ⟨oi, hoi, _⟩ := hit₁'
  have hl₁' := hl₁
  obtain ⟨ol, hol, _⟩ := hl₁'
  rw [List.drop_zero]
  have hfl : (items.toList.take i).length = i := by rw [List.length_take, Array.length_toList]; omega
  rw [if_neg (show ¬ ((items.toList.take i).length < i) by rw [hfl]; omega)]
  refine wpAny_bind (wpAny_holding (PySem.W.kun_collect (s := { s with heap := h₁ }) (T := "tuple_iterator") (.inr (.inr (.inr rfl))) (Walks.tuple (A := A.in1) hh s.heap.objs.size l hlt items) (fun j u st => st.1.typeIs) (k := i) hi ⟨hit₁, hl₁⟩ (Heap.lt_size hoi) (Heap.lt_size hol) (fun h₂ tk hk => ?_) hz))
  have hsub : i + 1 - 1 - i = 0 := by omega
  show wpAny _ _ (if (items.toList.drop i).length < i + 1 - 1 - i then _ else _) _ _ _
  rw [if_neg (by rw [hsub]; omega)]
  show wpAny _ _ (newList ((items.toList.drop i).take ((items.toList.drop i).length - (i + 1 - 1 - i))) >>= fun d => pure (items.toList.take i ++ [d] ++ (items.toList.drop i).drop ((items.toList.drop i).length - (i + 1 - 1 - i)))) _ _ _
  rw [hsub, Nat.sub_zero, List.take_length, List.drop_length]
  refine wpAny_bind (wpAny_newList (wpAny_pure ?_) (by rw [List.length_drop, Array.length_toList]; omega))
  rw [List.append_nil]
  exact h h₂ tk fun b o e => hk b o (Nat.ne_of_lt (Heap.lt_size e)) (hs₁.extBut b o (Nat.ne_of_lt (Heap.lt_size e)) (Heap.get?_push_of_some _ e))
end
theorem Vals.takeL : ∀ {xs : List V} {us : List Value} (i : Nat), Vals xs us → Vals (xs.take i) (us.take i)
  | _, _, 0, _ => .nil
  | _, _, _ + 1, .nil => .nil
  | _, _, i + 1, .cons h t => .cons h (Vals.takeL i t)
theorem Vals.dropL : ∀ {xs : List V} {us : List Value} (i : Nat), Vals xs us → Vals (xs.drop i) (us.drop i)
  | _, _, 0, h => h
  | _, _, _ + 1, .nil => .nil
  | _, _, i + 1, .cons h t => Vals.dropL i t
def gStar (K : PySem.W.Frag) (i : Nat) (t : TGs) : TG := fun v σ H Q => ∃ a xs, v = .ref a ∧ (SqL K H a xs ∨ SqT K H a xs) ∧ i ≤ xs.length ∧ ∀ p, H p = none → t (xs.take i ++ [.ref p]) σ (upd H p (.lst (xs.drop i))) Q
section
variable {X : Cx} {es es' : List Expr} {k i : Nat} {t : TGs} {pos : Pos}
theorem PGs.same (h : PGs X es t) (e : (assignEach es' X.env).map (·.2) = (assignEach es X.env).map (·.2)) : PGs X es' t := ⟨fun p s σ H vs us Q I r q => by rw [e]; exact h.run p s σ H vs us Q I r q⟩
theorem pg_star (hc : X.calm = true) (h : PGs X es t) (hn : (assignEach es X.env).length = i + 1 := by rfl) (hst : (assignEach es X.env).findIdx? (·.1) = some i := by rfl) : PG X (.Tuple es k pos) (gStar X.K i t) := by
  refine ⟨fun pins s σ H v u Q I r hw => ?_⟩
  obtain ⟨a, xs, e1, hq, hl, hw⟩ := hw
  subst e1
  cases r
  rw [PyProof.Rows.assign_Tuple]
  refine wpAny_bind (wpAny_standAt ?_)
  unfold unpack
  rw [hn, hst]
  have fin : ∀ its : List Value, Vals xs its → xs.length ≤ sizeLine → ∀ (h' : Heap) tk, (∀ b o, s.heap.get? b = some o → h'.get? b = some o) →
      wpAny (model X.prog X.w) X.A (assignInOrder ((assignEach es X.env).map (·.2)) (its.take i ++ [.ref h'.objs.size])) (fun _ s2 => ∃ σ' H', Inv X pins σ' H' s2 ∧ Q σ' H') X.xe { s with heap := h'.push { cls := .type "list", data := .seq (its.drop i).toArray }, toks := tk } := fun its rv hz h' tk k => by
    have I1 : Inv X pins σ H { s with heap := h', toks := tk } := I.kept k
    have I2 : Inv X pins σ (upd H h'.objs.size (.lst (xs.drop i))) { s with heap := h'.push { cls := .type "list", data := .seq (its.drop i).toArray }, toks := tk } :=
      L2.Inv.lnew (s := { s with heap := h', toks := tk }) I1 (Vals.dropL i rv) (by rw [List.length_drop]; omega)
    exact h.run pins _ σ _ _ _ Q I2 (L2.Vals.append (Vals.takeL i rv) (.cons (show RelV (V.ref h'.objs.size) (Value.ref h'.objs.size) from rfl) .nil)) (hw _ (I1.hok.fresh (Nat.le_refl _)))
  rcases hq with hq | hq
  · obtain ⟨its, rv, pl, hz⟩ := I.list hq
    have hlen := rv.length
    exact wpAny_bind (wpAny_holding (star_list pl.isList (I.ok.hd hc) (by simp only [List.size_toArray]; omega) (by simp only [List.size_toArray]; omega) fun h' tk k => by simpa using fin its rv hz h' tk k))
  · obtain ⟨its, rv, pl, hz⟩ := I.tuple hq
    have hlen := rv.length
    exact wpAny_bind (wpAny_holding (star_tup pl (I.ok.hd hc) (by simp only [List.size_toArray]; omega) (by simp only [List.size_toArray]; omega) fun h' tk k => by simpa using fin its rv hz h' tk k))
variable {g : G} {E : WX} {u : TgsD} {e tg : Expr} {me : DM D}
/-- the rest a list of the store; a list that stays -/
def sStarM (i : Nat) (u : TgsD) (m : DM D) : DM Fl := fun σ S => (m σ S).bind fun d S' => match asQ S' d with
  | some xs => if i ≤ xs.length then (match u (xs.take i ++ [.ref S'.length]) σ with
    | some σ' => .ok (.next σ') (S' ++ [.lst (xs.drop i)])
    | none => .stuck) else .stuck
  | none => .stuck
def sStarF (i : Nat) (u : TgsD) (m : DM D) : DM Fl := fun σ S => (m σ S).bind fun d S' => match asQ S' d with
  | some xs => match pdL (xs.drop i) with
    | some zs => if i ≤ xs.length then (match u (xs.take i ++ [.lst zs]) σ with
      | some σ' => .ok (.next σ') S'
      | none => .stuck) else .stuck
    | none => .stuck
  | none => .stuck
theorem Paired.dropR {α β : Type} {F : α → β → Prop} : ∀ {l : List α} {l' : List β} (n : Nat), Paired F l l' → Paired F (l.drop n) (l'.drop n)
  | _, _, 0, h => h
  | _, _, _ + 1, .nil => .nil
  | _, _, n + 1, .cons r t => Paired.dropR n t
theorem qs_starM (hk : X.K = g.K) (hc : X.calm = true) (he : PE X e (T g E me)) (hg : PGs X es (GTs g u)) (hm : (assignEach es' X.env).map (·.2) = (assignEach es X.env).map (·.2) := by rfl)
    (hn : (assignEach es' X.env).length = i + 1 := by rfl) (hst : (assignEach es' X.env).findIdx? (·.1) = some i := by rfl) {tpos : Pos} (hs : swapsWithSole [.Tuple es' k tpos] e pos.line X.env = pure false := by rfl) (hw : swappedStores [.Tuple es' k tpos] e X.env = pure none := by rfl)
    (h1 : (assignEach [.Tuple es' k tpos] X.env).map (·.2) = [assign (.Tuple es' k tpos) X.env] := by rfl) : PS X (.Assign [.Tuple es' k tpos] e pos) (TSt g E (sStarM i u me)) :=
  PS.imp (ps_asg he (pg_star hc (PGs.same hg hm) hn hst) hs hw h1) fun D σ H ⟨L, σd, S, rp, sl, ev⟩ => ⟨L, σd, S, rp, sl, (Ev.bind ev).imp fun d S1 L1 H1 x1 r1 ev1 v dn => by
    split at ev1
    · rename_i xs ex
      split at ev1
      · rename_i hi
        split at ev1
        · rename_i σ' eu
          obtain ⟨a, vs, rfl, rd, dz⟩ := asQ_ok r1 dn ex
          rw [← hk] at rd
          refine ⟨a, vs, rfl, rd, by rw [← Paired.len dz]; exact hi, fun p hp => ?_⟩
          have xn : Ext g L1 H1 (L1 ++ [p]) (upd H1 p (.lst (vs.drop i))) := Ext.newM hp
          have rn := r1.newM (ob := .lst (xs.drop i)) hp (.lst upd_same (Dens.ext r1 xn (Paired.dropR i dz))) (r1.h0 hp)
          refine ⟨L1 ++ [p], σd, S1 ++ [.lst (xs.drop i)], _, σ', rn, (sl.ext rp x1).ext r1 xn, Dens.app (Dens.ext r1 xn (Paired.takeL i dz)) (.cons (.ref ?_) .nil), eu, fun σ2 sl2 => ev1 (L1 ++ [p]) _ xn rn σ2 sl2⟩
          have hL : S1.length = L1.length := Paired.len r1.obs
          rw [hL]; simp
        · exact ev1.elim
      · exact ev1.elim
    · exact ev1.elim⟩
theorem qs_starF (hk : X.K = g.K) (hc : X.calm = true) (he : PE X e (T g E me)) (hg : PGs X es (GTs g u)) (hm : (assignEach es' X.env).map (·.2) = (assignEach es X.env).map (·.2) := by rfl)
    (hn : (assignEach es' X.env).length = i + 1 := by rfl) (hst : (assignEach es' X.env).findIdx? (·.1) = some i := by rfl) {tpos : Pos} (hs : swapsWithSole [.Tuple es' k tpos] e pos.line X.env = pure false := by rfl) (hw : swappedStores [.Tuple es' k tpos] e X.env = pure none := by rfl)
    (h1 : (assignEach [.Tuple es' k tpos] X.env).map (·.2) = [assign (.Tuple es' k tpos) X.env] := by rfl) : PS X (.Assign [.Tuple es' k tpos] e pos) (TSt g E (sStarF i u me)) :=
  PS.imp (ps_asg he (pg_star hc (PGs.same hg hm) hn hst) hs hw h1) fun D σ H ⟨L, σd, S, rp, sl, ev⟩ => ⟨L, σd, S, rp, sl, (Ev.bind ev).imp fun d S1 L1 H1 x1 r1 ev1 v dn => by
    split at ev1
    · rename_i xs ex
      split at ev1
      · rename_i zs ez
        split at ev1
        · rename_i hi
          split at ev1
          · rename_i σ' eu
            obtain ⟨a, vs, rfl, rd, dz⟩ := asQ_ok r1 dn ex
            rw [← hk] at rd
            refine ⟨a, vs, rfl, rd, by rw [← Paired.len dz]; exact hi, fun p hp => ?_⟩
            have z : DzAll g.K (g.wr L1) H1 (vs.drop i) zs := dens_dz (pdL_eq ez ▸ Paired.dropR i dz)
            have xn : Ext g L1 H1 L1 (upd H1 p (.lst (vs.drop i))) := Ext.new1 hp
            have rn := r1.new1 (o := .lst (vs.drop i)) hp
            exact ⟨L1, σd, S1, _, σ', rn, (sl.ext rp x1).ext r1 xn, Dens.app (Dens.ext r1 xn (Paired.takeL i dz)) (.cons (.pd (.lst (r1.free hp) (.inl upd_same) (z.new r1 hp))) .nil), eu, fun σ2 sl2 => ev1 L1 _ xn rn σ2 sl2⟩
          · exact ev1.elim
        · exact ev1.elim
      · exact ev1.elim
    · exact ev1.elim⟩
end
end DL
end
section
namespace DL
open PySem PySem.Spec PyProof.Rows L2
open Classical
section
variable {g g' : G} {E : WX} {L L' L0 : List Addr} {H H' H0 : Hp} {S S' : Sto} {σd : Sl} {σ : L2.St} {v : V} {d : D}
variable {X : Cx} {tg a b e : Expr} {me ma mb : DM D} {ml : DM (List D)} {pos p p2 tpos : Pos}

/-! ### tuple(range(..)), list(range(..)) -/
def rgD (a b : Int) : List PyData := (List.range (b - a).toNat).map fun (i : Nat) => .int (a + i)
theorem rg_dz {K : PySem.W.Frag} {W : Addr → Prop} (a b : Int) : DzAll K W H (rgV a b) (rgD a b) := by
  unfold rgV rgD
  generalize List.range (b - a).toNat = l
  induction l with
  | nil => exact .nil
  | cons x l ih => exact .cons (.int _) ih
noncomputable def kRg (tup : Bool) (a b : Int) : Sto → Out D := fun S => if RgOk a b then .ok (if tup = true then .tup (rgD a b) else .lst (rgD a b)) S else .stuck
noncomputable def eRg1 (tup : Bool) (m : DM D) : DM D := mBind m fun d => fun _ S => match d with
  | .pd (.int n) => kRg tup 0 n S
  | _ => .stuck
noncomputable def eRg2 (tup : Bool) (m n : DM D) : DM D := mBind m fun d => mBind n fun d' => fun _ S => match d, d' with
  | .pd (.int i), .pd (.int j) => kRg tup i j S
  | _, _ => .stuck
theorem px_tupRg1 (hc : X.calm = true) (hg : Gl X "tuple") (hm : X.mg "tuple" = none) (hg2 : Gl X "range") (hm2 : X.mg "range" = none) (ha : PE X a (T g E ma)) {p pos p2 pos2 : Pos} (na : starEach [a] X.env = (false, eval a X.env) :: starEach [] X.env := by rfl)
    (nb : starEach [.Call (.Name "range" p2) [a] [] pos2] X.env = (false, eval (.Call (.Name "range" p2) [a] [] pos2) X.env) :: starEach [] X.env := by rfl) :
    PE X (.Call (.Name "tuple" p) [.Call (.Name "range" p2) [a] [] pos2] [] pos) (T g E (eRg1 true ma)) :=
  PE.imp (pe_tupRg hc hg hm (prg_1 hg2 hm2 ha na) nb) fun σ H Q ⟨L, σd, S, rp, sl, ev⟩ => ⟨L, σd, S, rp, sl, ev.step fun d S1 L1 H1 x1 r1 ev1 v dn => by
    split at ev1
    · rename_i n
      cases den_int dn
      unfold kRg at ev1
      split at ev1
      · rename_i hr
        exact ⟨n, rfl, hr, fin_tup r1 ev1 (rg_dz 0 n)⟩
      · exact ev1.elim
    · exact ev1.elim⟩
theorem px_lstRg1 (hc : X.calm = true) (hg : Gl X "list") (hm : X.mg "list" = none) (hg2 : Gl X "range") (hm2 : X.mg "range" = none) (ha : PE X a (T g E ma)) {p pos p2 pos2 : Pos} (na : starEach [a] X.env = (false, eval a X.env) :: starEach [] X.env := by rfl)
    (nb : starEach [.Call (.Name "range" p2) [a] [] pos2] X.env = (false, eval (.Call (.Name "range" p2) [a] [] pos2) X.env) :: starEach [] X.env := by rfl) :
    PE X (.Call (.Name "list" p) [.Call (.Name "range" p2) [a] [] pos2] [] pos) (T g E (eRg1 false ma)) :=
  PE.imp (pe_listRg hc hg hm (prg_1 hg2 hm2 ha na) nb) fun σ H Q ⟨L, σd, S, rp, sl, ev⟩ => ⟨L, σd, S, rp, sl, ev.step fun d S1 L1 H1 x1 r1 ev1 v dn => by
    split at ev1
    · rename_i n
      cases den_int dn
      unfold kRg at ev1
      split at ev1
      · rename_i hr
        exact ⟨n, rfl, hr, fin_lst r1 ev1 (rg_dz 0 n)⟩
      · exact ev1.elim
    · exact ev1.elim⟩

/-! ### zip of two tuples, of two lists that stay -/
def zipIt (xs ys : List PyData) : List D := List.zipWith (fun x y => D.tup [x, y]) xs ys
def wkZip : List D → DM Wk := fun ds _ S => match ds with
  | [.pd (.tuple xs), .pd (.tuple ys)] => .ok ⟨zipIt xs ys, .no⟩ S
  | [.pd (.list xs), .pd (.list ys)] => .ok ⟨zipIt xs ys, .no⟩ S
  | _ => .stuck
def iZip (m : DM (List D)) : DM Wk := mBind m wkZip
theorem zipIt_get {xs ys : List PyData} {i : Nat} (e : (zipIt xs ys)[i]? = some d) : ∃ x y, xs[i]? = some x ∧ ys[i]? = some y ∧ d = .tup [x, y] := by
  unfold zipIt at e
  rw [List.getElem?_zipWith] at e
  cases e1 : xs[i]? with
  | none => rw [e1] at e; cases e
  | some x =>
    cases e2 : ys[i]? with
    | none => rw [e1, e2] at e; cases e
    | some y => rw [e1, e2] at e; cases e; exact ⟨x, y, rfl, rfl, rfl⟩
theorem DzAll.getZ {K : PySem.W.Frag} {W : Addr → Prop} {ds : List PyData} {vs : List V} (h : DzAll K W H vs ds) {i : Nat} {d : PyData} (e : ds[i]? = some d) : ∃ v, vs[i]? = some v ∧ Dz K W H v d := h.get e
theorem pairNew {x y : V} {dx dy : PyData} {T : Addr} (r : RepS g' L S H) (hT : H T = none) (hx : Dz g'.K (g'.wr L) H x dx) (hy : Dz g'.K (g'.wr L) H y dy) : Ext g L H L (upd H T (.tup [x, y])) ∧ RepS g' L S (upd H T (.tup [x, y])) ∧ Den g' L (upd H T (.tup [x, y])) (.tup [dx, dy]) (.ref T) := by
  have rn := r.new1 (o := .tup [x, y]) hT
  have z : DzAll g'.K (g'.wr L) H [x, y] [dx, dy] := .cons hx (.cons hy .nil)
  exact ⟨Ext.any (g := g') (Ext.new1 hT), rn, .pd (.tup (SqT.of upd_same) (z.new r hT))⟩
theorem ix_zip (hK : X.K = g.K) (hg : Gl X "zip") (hm : X.mg "zip" = none) {elts : List Expr} {kk : Nat} (ha : PA X [a, b] (TL g E ml))
    (hs : starEach [a, b] X.env = (false, eval a X.env) :: starEach [b] X.env := by rfl) (hpl : (backTo pos (starEach [b] X.env)).any (·.1) = false := by rfl) :
    PI X (.Tuple elts kk tpos) (.Call (.Name "zip" p) [a, b] [] pos) (TW g E (iZip ml)) :=
  PI.imp (RZ.pi_zipA hg hm ha hs hpl) fun σ H R ⟨L, σd, S, rp, sl, ev⟩ => ⟨L, σd, S, rp, sl, ev.step fun ds S1 L1 H1 x1 r1 ev1 vs dn => by
    unfold wkZip at ev1
    split at ev1
    · rename_i xs ys
      have fin := ev1.ok r1
      cases dn with
      | cons n1 n2 =>
        cases n2 with
        | cons n2 n3 =>
          cases n3
          obtain ⟨p1, v1, rfl, ds1, h1⟩ := seq_stays (S := S1) r1 n1 (xs := xs.map .pd) rfl
          obtain ⟨p2, v2, rfl, ds2, h2⟩ := seq_stays (S := S1) r1 n2 (xs := ys.map .pd) rfl
          obtain ⟨_, _, e1, t1, _⟩ := den_tup n1
          obtain ⟨_, _, e2, t2, _⟩ := den_tup n2
          cases e1; cases e2
          obtain ⟨a1, w1, e1, t1, z1⟩ := den_tup n1
          obtain ⟨a2, w2, e2, t2, z2⟩ := den_tup n2
          cases e1; cases e2
          rw [hK]
          refine ⟨p1, p2, w1, w2, rfl, .inr ⟨t1, t2, fin _ fun g' L S H gx x r' _ => ?_⟩⟩
          have stay : ∀ {p : Addr} {w : List V}, SqT g.K H1 p w → SqT g.K H p w := fun {p w} rd => SqT.keep rd fun zs hz o e' it => x.keep p o e' it fun hm => by
            obtain ⟨o2, e2, nt⟩ := r1.there hm
            rcases hz with hz | ⟨o3, hz⟩
            · rw [hz] at e2; cases e2; exact nt.no_tup zs rfl
            · rw [hz] at e2; cases e2; exact nt.no_frz o3 _ rfl
          refine ⟨fun i d e => ?_, w1, w2, stay t1, stay t2, ?_⟩
          · obtain ⟨dx, dy, ex, ey, rfl⟩ := zipIt_get e
            obtain ⟨x', gx', zx⟩ := z1.get ex
            obtain ⟨y', gy', zy⟩ := z2.get ey
            refine ⟨⟨w1, w2, x', y', stay t1, stay t2, gx', gy'⟩, fun z H' hz => ?_⟩
            obtain ⟨T, x2, y2, rfl, hT, rfl, f1, f2⟩ := hz
            have e3 := f1 _ (stay t1)
            have e4 := f2 _ (stay t2)
            rw [gx'] at e3; cases e3
            rw [gy'] at e4; cases e4
            have k := kpx r1 gx x
            exact pairNew r' hT (gx.K ▸ zx.keep k) (gx.K ▸ zy.keep k)
          · rw [z1.len, z2.len]
            show _ ≤ (zipIt xs ys).length ∨ _ ≤ (zipIt xs ys).length
            unfold zipIt
            rw [List.length_zipWith]
            omega
    · rename_i xs ys
      have fin := ev1.ok r1
      cases dn with
      | cons n1 n2 =>
        cases n2 with
        | cons n2 n3 =>
          cases n3
          cases n1 with
          | pd q1 =>
          cases n2 with
          | pd q2 =>
          cases q1 with
          | @lst p1 w1 _ nw1 t1 z1 =>
          cases q2 with
          | @lst p2 w2 _ nw2 t2 z2 =>
          rw [hK]
          refine ⟨p1, p2, w1, w2, rfl, .inl ⟨.inl t1, .inl t2, fin _ fun g' L S H gx x r' _ => ?_⟩⟩
          have stay : ∀ {p : Addr} {w : List V}, ¬ g.wr L1 p → Rd H1 p (.lst w) → SqL g.K H p w := fun {p w} nw rd => .inl (Rd.keep rd fun o e' it => x.keep p o e' it fun hm => nw (.inr hm))
          refine ⟨fun i d e => ?_, w1, w2, stay nw1 t1, stay nw2 t2, ?_⟩
          · obtain ⟨dx, dy, ex, ey, rfl⟩ := zipIt_get e
            obtain ⟨x', gx', zx⟩ := z1.get ex
            obtain ⟨y', gy', zy⟩ := z2.get ey
            refine ⟨⟨w1, w2, x', y', stay nw1 t1, stay nw2 t2, gx', gy'⟩, fun z H' hz => ?_⟩
            obtain ⟨T, x2, y2, rfl, hT, rfl, f1, f2⟩ := hz
            have e3 := f1 _ (stay nw1 t1)
            have e4 := f2 _ (stay nw2 t2)
            rw [gx'] at e3; cases e3
            rw [gy'] at e4; cases e4
            have k := kpx r1 gx x
            exact pairNew r' hT (gx.K ▸ zx.keep k) (gx.K ▸ zy.keep k)
          · rw [z1.len, z2.len]
            show _ ≤ (zipIt xs ys).length ∨ _ ≤ (zipIt xs ys).length
            unfold zipIt
            rw [List.length_zipWith]
            omega
    · exact ev1.elim⟩
end
end DL
end
section
namespace DL
open PySem PySem.Spec PyProof.Rows L2

/-! ### a def that hands back a new object that may change -/
def finM (k : Nat) (d : D) (S : Sto) : Out D := match d with
  | .ref n => if k ≤ n then (match S[n]? with
    | some ob => if (S.take k).all pdOb = true ∧ pdOb ob = true then .ok (.ref k) (S.take k ++ [ob]) else .stuck
    | none => .stuck) else .stuck
  | _ => .stuck
def runFM (n : Nat) (m : DM Fl) : DF := fun ds S => match m (startD n ds) S with
  | .ok (.ret d) S' => finM S.length d S'
  | .ok _ _ => .stuck
  | .exc e _ S' => if (S'.take S.length).all pdOb = true ∧ (e.fs.all fun p => noRef p.2) = true then .exc e [] (S'.take S.length) else .stuck
  | .stuck => .stuck
def callFM (n : Nat) (f : DF) (ds : List D) : DM D := fun σ S => match obsAt S (refsOf ds) with
  | some os => if ds.length = n ∧ (refsOf ds).Nodup ∧ os.all pdOb = true then (match f (renum 0 ds) os with
    | .ok (.ref k) S' => (match S'[os.length]? with
      | some ob => if k = os.length ∧ S'.length = os.length + 1 ∧ (S'.take os.length).all pdOb = true ∧ pdOb ob = true then .ok (.ref S.length) (putAll S (refsOf ds) (S'.take os.length) ++ [ob]) else .stuck
      | none => .stuck)
    | .ok _ _ => .stuck
    | .exc e _ S' => if S'.length = os.length ∧ S'.all pdOb = true ∧ (e.fs.all fun p => noRef p.2) = true then .exc e σ (putAll S (refsOf ds) S') else .stuck
    | .stuck => .stuck) else .stuck
  | none => .stuck
section
variable {g g' : G} {E : WX} {L L' : List Addr} {H H' : Hp} {S S' : Sto} {σd : Sl} {σ : L2.St} {v : V} {d : D}
theorem RepS.trimM (r : RepS g L S H) {n : Nat} {a : Addr} {ob : Ob} (ha : L[n]? = some a) (hb : S[n]? = some ob) (hn : g.as.length ≤ n) (p1 : (S.take g.as.length).all pdOb = true) (p2 : pdOb ob = true) :
    a ∉ g.as ∧ RepS g (g.as ++ [a]) (S.take g.as.length ++ [ob]) H := by
  obtain ⟨t, ht⟩ := r.pre
  have hna : a ∉ g.as := fun hm => by
    obtain ⟨j, hj, ej⟩ := List.mem_iff_getElem.mp hm
    have e1 : L[j]? = some a := by rw [← ht, List.getElem?_append_left hj, List.getElem?_eq_getElem hj, ej]
    have e2 := List.getElem?_eq_some_iff.mp e1
    have e3 := List.getElem?_eq_some_iff.mp ha
    have := (List.getElem_inj r.nd).mp (e2.2.trans e3.2.symm)
    omega
  have haL : a ∈ L := List.mem_of_getElem? ha
  have sub : ∀ b, b ∈ g.as ++ [a] → b ∈ L := fun b hb => by
    rcases List.mem_append.mp hb with h | h
    · exact mem_pre r.pre h
    · rw [show b = a by simpa using h]; exact haL
  have wsub : ∀ b, g.wr (g.as ++ [a]) b → g.wr L b := fun b w => w.imp id (sub b)
  refine ⟨hna, ?_, List.prefix_append _ _, ?_, fun b hb na => r.fresh b (sub b hb) na, fun b hb na => r.own b (sub b hb) na, r.keep, r.amb, r.asW, r.th0, r.tabs⟩
  · rw [List.nodup_append]
    refine ⟨r.nd.sublist r.pre.sublist, by simp, fun b hb c hc e => ?_⟩
    have e2 : c = a := by simpa using hc
    subst e2; subst e
    exact hna hb
  · have h := Paired.takeL g.as.length r.obs
    have e : L.take g.as.length = g.as := by rw [← ht]; simp
    rw [e] at h
    obtain ⟨a2, ea, od⟩ := Paired.get r.obs hb
    rw [ha] at ea
    cases ea
    exact Paired.app (Paired.memL h fun ob a ho _ q => q.move rfl rfl wsub (List.all_eq_true.mp p1 _ ho)) (.cons (od.move rfl rfl wsub p2) .nil)
/-- behind a call that made an object -/
theorem call_backM (r : RepS g L S H) {idx : List Nat} {os : List Ob} {S2 : Sto} {ob : Ob} (nd : idx.Nodup) (e : obsAt S idx = some os) (h2 : S2.length = os.length) (n : S2.all pdOb = true) (nb : pdOb ob = true)
    {L2 : List Addr} (x : Ext (g.call L H idx) (addrsAt L idx) H L2 H') (r2 : RepS (g.call L H idx) L2 (S2 ++ [ob]) H') : ∃ a, L2 = addrsAt L idx ++ [a] ∧ Ext g L H (L ++ [a]) H' ∧ RepS g (L ++ [a]) (putAll S idx S2 ++ [ob]) H' := by
  have hl : ∀ i ∈ idx, i < L.length := fun i hi => by rw [← Paired.len r.obs]; exact obsAt_lt e i hi
  have hS2 : S2.length = (addrsAt L idx).length := by rw [h2, obsAt_len e, addrsAt_len]
  obtain ⟨t, rfl⟩ := x.pre
  have ht : t.length = 1 := by
    have := Paired.len r2.obs
    rw [List.length_append, List.length_append, List.length_singleton] at this
    omega
  obtain ⟨a, rfl⟩ := List.length_eq_one_iff.mp ht
  have sub : ∀ a, a ∈ addrsAt L idx → a ∈ L := fun a h => let ⟨_, _, q⟩ := addrsAt_mem h hl; List.mem_of_getElem? q
  have haN : a ∉ addrsAt L idx := fun h => by
    have := r2.nd
    rw [List.nodup_append] at this
    exact this.2.2 a h a (by simp) rfl
  have ha0 : H a = none := x.new a (by simp) haN
  have hfr : ¬ g.wr L a := r.free ha0
  have haL : a ∉ L := fun h => hfr (.inr h)
  have x' : Ext g L H (L ++ [a]) H' := ⟨List.prefix_append _ _, fun b hb nb => by
    rcases List.mem_append.mp hb with h | h
    · exact absurd h nb
    · rw [show b = a by simpa using h]; exact ha0, fun b o q it na => x.keep b o q it fun z => na (sub b z), x.there⟩
  have wsub : ∀ b, g.wr (L ++ [a]) b → (g.call L H idx).wr (addrsAt L idx ++ [a]) b := fun b w => by
    rcases w with w | w
    · exact .inl (.inl w)
    · rcases List.mem_append.mp w with w | w
      · exact .inl (.inr w)
      · exact .inr (List.mem_append.mpr (.inr w))
  refine ⟨a, rfl, x', ?_, r.pre.trans (List.prefix_append _ _), ?_, fun b hb na => ?_, fun b hb na => ?_, fun b o q it na => ?_, fun b w => r2.amb b (.inl w), r.asW, fun b o q => let ⟨w, q2⟩ := r.th0 b o q; x.there b w q2, r2.tabs⟩
  · rw [List.nodup_append]
    refine ⟨r.nd, by simp, fun b hb c hc e => ?_⟩
    have e2 : c = a := by simpa using hc
    subst e2; subst e
    exact haL hb
  · refine Paired.app (paired_of (by rw [putAll_length]; exact Paired.len r.obs) fun i ob' b e1 e2 => ?_) (.cons ?_ .nil)
    · by_cases hi : i ∈ idx
      · obtain ⟨j, hj, ej⟩ := List.mem_iff_getElem.mp hi
        have ej' : idx[j]? = some i := by rw [List.getElem?_eq_getElem hj, ej]
        have hjS : j < S2.length := by rw [h2, obsAt_len e]; exact hj
        have eo : S2[j]? = some S2[j] := List.getElem?_eq_getElem hjS
        have eo' : (S2 ++ [ob])[j]? = some S2[j] := by rw [List.getElem?_append_left hjS]; exact eo
        have := putAll_in (S := S) nd (fun i hi => obsAt_lt e i hi) ej' eo
        rw [this] at e1
        obtain ⟨a2, ea, od⟩ := Paired.get r2.obs eo'
        have ea2 := addrsAt_get (L := L) ej'
        rw [List.getElem?_append_left (List.getElem?_eq_some_iff.mp ea2).1, ea2, getD_of e2] at ea
        cases ea
        cases e1
        exact od.move (g := g.call L H idx) (g' := g) rfl rfl wsub (List.all_eq_true.mp n _ (List.getElem_mem hjS))
      · rw [putAll_out hi] at e1
        obtain ⟨a2, ea, od⟩ := Paired.get r.obs e1
        rw [e2] at ea
        cases ea
        refine od.ext r x' fun o q it => x.keep b o q it fun z => ?_
        obtain ⟨j, hj, q2⟩ := addrsAt_mem z hl
        have a1 := List.getElem?_eq_some_iff.mp e2
        have a3 := List.getElem?_eq_some_iff.mp q2
        have := (List.getElem_inj r.nd).mp (a1.2.trans a3.2.symm)
        subst this
        exact hi hj
    · have e1 : (S2 ++ [ob])[S2.length]? = some ob := by simp
      obtain ⟨a2, ea, od⟩ := Paired.get r2.obs e1
      rw [hS2] at ea
      simp at ea
      subst ea
      exact od.move (g := g.call L H idx) (g' := g) rfl rfl wsub nb
  · rcases List.mem_append.mp hb with h | h
    · exact r.fresh b h na
    · rw [show b = a by simpa using h]
      cases q : g.H0 a with
      | none => rfl
      | some o => exact (r.h0 ha0 o q).elim
  · rcases List.mem_append.mp hb with h | h
    · exact r.own b h na
    · rw [show b = a by simpa using h]; exact fun w => hfr (.inl w)
  · refine x.keep b o (r.keep b o q it na) it fun z => ?_
    have := r.fresh b (sub b z) na
    rw [q] at this; cases this
theorem Fun.dlM {P : Program} {w : World} {K : PySem.W.Frag} {mg : Str → Option Value} {base : Heap} {x qual : Str} {st : Stmt} {f : Addr} {fd : FuncData} {N ps : List Str} {k : Nat} {m : DM Fl} (F : Fun K x qual st f fd) (Sc : FnScope N ps (defScope st))
    (hb : ∀ (cdv : Value) (A : Around) (outer : List Env) (s : Shared) (H : Hp) (E : XK) (W : Addr → Prop) (as : List Addr), RoomG k (A.deeper (envOfC qual (defScope st) s.heap.objs.size f cdv)) →
      PSs (cxOf (L2.CX P w) P w K mg base N qual (defScope st) f cdv A outer s H E) (defBody st) (TSt ⟨K, mg, W, H, as⟩ (fun c d _ H => E c d H) m)) :
    FnG P w K mg base (k + 1) f fd ps (spM K mg ps.length (runFM N.length m)) := by
  refine Fun.okG F Sc (fun vs H Q E h => h.1) (fun cdv A outer s H vs Q E hr h => ?_)
  obtain ⟨hl, W, as, ds, S, rp, dn, ev⟩ := h
  refine ⟨_, hb cdv A outer s H E W as hr, as, startD N.length ds, S, rp, startD_sl dn, ?_⟩
  have hS : S.length = as.length := Paired.len rp.obs
  unfold runFM at ev
  cases em : m (startD N.length ds) S with
  | ok fl S' =>
    rw [em] at ev
    cases fl with
    | ret d =>
      intro L' H' x r v dn'
      show Q v H'
      unfold finM at ev
      dsimp only at ev
      split at ev
      · rename_i n
        split at ev
        · rename_i hn
          split at ev
          · rename_i ob hob
            split at ev
            · rename_i hp
              rw [hS] at ev hp hn
              cases dn' with
              | @ref _ a ha =>
                obtain ⟨hna, rt⟩ := r.trimM (g := ⟨K, mg, W, H, as⟩) ha hob hn hp.1 hp.2
                refine ev (as ++ [a]) H' ⟨List.prefix_append _ _, fun b hb nb => ?_, x.keep, x.there⟩ rt (.ref a) (.ref (by simp))
                rcases List.mem_append.mp hb with h | h
                · exact absurd h nb
                · rw [show b = a by simpa using h]; exact x.new a (List.mem_of_getElem? ha) hna
            · exact ev.elim
          · exact ev.elim
        · exact ev.elim
      · exact ev.elim
    | next σ => exact ev.elim
    | brk σ => exact ev.elim
    | cont σ => exact ev.elim
  | exc e σ S' =>
    rw [em] at ev
    dsimp only at ev
    split at ev
    · rename_i hp
      rw [hS] at ev hp
      intro L' H' c x σ y r sl ex
      exact ev as H' c x [] y.trim (r.trim hp.1) (fun i d z => by simp at z) (ex.move rfl rfl (fun b w => w.imp id fun z => mem_pre r.pre z) hp.2)
    · exact ev.elim
  | stuck => rw [em] at ev; exact ev.elim
variable {X : Cx} {ml : DM (List D)} {es : List Expr} {e : Expr} {p pos : Pos} {x : Str} {k n : Nat} {f : Addr} {fd : FuncData} {ps : List Str} {fm : DF}
theorem call_readsM (hK : X.K = g.K) (hmg : X.mg = g.mg) {Q : VK} (h : T g E (mBind ml (callFM n fm)) σ H Q) : TL g E ml σ H (fun vs H1 => spM X.K X.mg n fm vs H1 Q (WE E σ)) := by
  obtain ⟨L, σd, S, rp, sl, ev⟩ := h
  refine ⟨L, σd, S, rp, sl, ev.step fun ds S1 L1 H1 x1 r1 ev1 vs dn => ?_⟩
  show spM X.K X.mg n fm vs H1 Q (WE E σ)
  unfold callFM at ev1
  split at ev1
  · rename_i os eo
    split at ev1
    · rename_i hc
      obtain ⟨hn, nd, hp⟩ := hc
      have hl : ∀ i ∈ refsOf ds, i < L1.length := fun i hi => by rw [← Paired.len r1.obs]; exact obsAt_lt eo i hi
      refine ⟨by rw [← Paired.len dn]; exact hn, g.wr L1, addrsAt L1 (refsOf ds), renum 0 ds, os, ?_, ?_, ?_⟩
      · rw [hK, hmg]; exact call_rep r1 nd eo hp
      · rw [hK, hmg]; exact call_dens r1 hl 0 rfl dn
      · rw [hK, hmg]
        show Ev (g.call L1 H1 (refsOf ds)) _ _ _ _ _
        split at ev1
        · rename_i k S2 ef
          split at ev1
          · rename_i ob hob
            split at ev1
            · rename_i hd
              obtain ⟨rfl, hd2, hd3, hd4⟩ := hd
              rw [ef]
              intro L' H' x r' v dn'
              have hS2 : S2 = S2.take os.length ++ [ob] := by
                have := List.getElem?_eq_some_iff.mp hob
                obtain ⟨hlt, hob'⟩ := this
                conv => lhs; rw [← List.take_append_drop os.length S2]
                congr 1
                rw [List.drop_eq_getElem_cons hlt, hob', List.drop_eq_nil_of_le (by omega)]
              rw [hS2] at r'
              obtain ⟨a, rfl, x2, r2⟩ := call_backM r1 nd eo (by rw [List.length_take]; omega) hd3 hd4 x r'
              cases dn' with
              | @ref _ a' ha =>
                have hal : os.length = (addrsAt L1 (refsOf ds)).length := by rw [obsAt_len eo, addrsAt_len]
                rw [hal] at ha
                simp at ha
                subst ha
                exact ev1 (L1 ++ [a]) H' x2 r2 (.ref a) (.ref (by rw [Paired.len r1.obs]; simp))
            · exact ev1.elim
          · exact ev1.elim
        · exact ev1.elim
        · rename_i ex _ S2 ef
          split at ev1
          · rename_i hd
            rw [ef]
            intro L' H' c y σ' x r' _ dn'
            obtain ⟨rfl, x2, r2⟩ := call_back r1 nd eo hd.1 hd.2.1 x r'
            exact ev1 L1 H' c y σ x2 r2 ((sl.ext rp x1).ext r1 x2) (dn'.move (g := g.call L1 H1 (refsOf ds)) (g' := g) rfl rfl (fun b w => (call_wr (g := g) (L := L1) (H := H1) (idx := refsOf ds) hl).mpr w) hd.2.2)
          · exact ev1.elim
        · exact ev1.elim
    · exact ev1.elim
  · exact ev1.elim
theorem px_callM (F : FnG X.prog X.w X.K X.mg X.base k f fd ps (spM X.K X.mg n fm)) (hr : RoomG k X.A) (hg : Gl X x) (hm : X.mg x = some (.ref f)) (hk : PySem.W.keepIn X.K (.ref f) = true) (hb : Binds X.K fd ps [])
    (hK : X.K = g.K) (hmg : X.mg = g.mg) (tk : Takes X E) (ha : PA X (e :: es) (TL g E ml)) (hdb : (x == ("__debug__" : Str)) = false := by decide) (he : starEach (e :: es) X.env = (false, eval e X.env) :: starEach es X.env := by rfl)
    (hpl : (backTo pos (starEach es X.env)).any (·.1) = false := by rfl) : PE X (.Call (.Name x p) (e :: es) [] pos) (T g E (mBind ml (callFM n fm))) :=
  PE.imp (pe_callG (E := fun σ => WE E σ) F hr hg hm hk hb (fun σ => passAt tk σ) ha hdb he hpl) fun σ H Q h => call_readsM hK hmg h
end
end DL
end
section
namespace DL
open PySem PySem.Spec PyProof.Rows L2
section
variable {X : Cx} {g : G} {E : WX} {a b e : Expr} {es : List Expr} {m : DM D} {ml : DM (List D)} {op : CmpOp} {pos p : Pos}
theorem pe_cmpC (h : PC X op a b (T g E m)) (h1 : behindInMarks op b = false := by rfl) : PE X (.Compare a [op] [b] pos) (T g E m) := pe_cmp h h1
theorem pt_cmpC (h : PC X op a b (T g E m)) (h1 : behindInMarks op b = false := by rfl) : PT X (.Compare a [op] [b] pos) (TB g E (eTest m)) :=
  PT.imp (pt_cmp h h1) fun σ H Q ⟨L, σd, S, rp, sl, ev⟩ => ⟨L, σd, S, rp, sl, ev.step fun d S' L' H' x r' ev' v dn => asB_ok r' dn ev'⟩
theorem units65 {k : Nat} {A : Around} (r : Room k A) : A.units + 65 < cLine := by have := r.un; omega
theorem units1 {k : Nat} {A : Around} (r : Room k A) : A.units + 1 < cLine := by have := r.un; omega
end
/-- a def of the text, as its callers know it -/
structure Cal (P : Program) (w : World) (K : PySem.W.Frag) (mg : Str → Option Value) (base : Heap) (k : Nat) (x : Str) (ps : List Str) (f : DF) : Prop where
  ex : ∃ (a : Addr) (fd : FuncData), FnG P w K mg base k a fd ps (spM K mg ps.length f) ∧ mg x = some (.ref a) ∧ PySem.W.keepIn K (.ref a) = true ∧ Binds K fd ps []
theorem Cal.mono {P : Program} {w : World} {K : PySem.W.Frag} {mg : Str → Option Value} {base : Heap} {j k : Nat} {x : Str} {ps : List Str} {f : DF} (c : Cal P w K mg base j x ps f) (h : j ≤ k := by decide) : Cal P w K mg base k x ps f :=
  let ⟨a, fd, F, r⟩ := c.ex
  ⟨a, fd, F.mono h, r⟩
theorem Cal.of {P : Program} {w : World} {K : PySem.W.Frag} {mg : Str → Option Value} {base : Heap} {k : Nat} {x : Str} {ps : List Str} {f : DF} {a : Addr} {fd : FuncData} {st : Stmt} {q : Str} (F : FnG P w K mg base k a fd ps (spM K mg ps.length f)) (hm : mg x = some (.ref a)) (Fu : Fun K x q st a fd) (hb : Binds K fd ps []) : Cal P w K mg base k x ps f :=
  ⟨a, fd, F, hm, Fu.kp, hb⟩
section
variable {X : Cx} {g : G} {E : WX} {e : Expr} {es : List Expr} {ml : DM (List D)} {pos p : Pos} {k : Nat} {x : Str} {ps : List Str} {fm : DF}
theorem px_callC {n : Nat} (C : Cal X.prog X.w X.K X.mg X.base k x ps fm) (hr : RoomG k X.A) (hg : Gl X x) (hK : X.K = g.K) (hmg : X.mg = g.mg) (tk : Takes X E) (ha : PA X (e :: es) (TL g E ml)) (hdb : (x == ("__debug__" : Str)) = false := by decide) (he : starEach (e :: es) X.env = (false, eval e X.env) :: starEach es X.env := by rfl)
    (hpl : (backTo pos (starEach es X.env)).any (·.1) = false := by rfl) (hn : ps.length = n := by rfl) : PE X (.Call (.Name x p) (e :: es) [] pos) (T g E (mBind ml (callF n fm))) := by
  subst hn
  obtain ⟨a, fd, F, hm, hk, hb⟩ := C.ex
  exact px_call F hr hg hm hk hb hK hmg tk ha hdb he hpl
theorem px_callCM {n : Nat} (C : Cal X.prog X.w X.K X.mg X.base k x ps fm) (hr : RoomG k X.A) (hg : Gl X x) (hK : X.K = g.K) (hmg : X.mg = g.mg) (tk : Takes X E) (ha : PA X (e :: es) (TL g E ml)) (hdb : (x == ("__debug__" : Str)) = false := by decide) (he : starEach (e :: es) X.env = (false, eval e X.env) :: starEach es X.env := by rfl)
    (hpl : (backTo pos (starEach es X.env)).any (·.1) = false := by rfl) (hn : ps.length = n := by rfl) : PE X (.Call (.Name x p) (e :: es) [] pos) (T g E (mBind ml (callFM n fm))) := by
  subst hn
  obtain ⟨a, fd, F, hm, hk, hb⟩ := C.ex
  exact px_callM F hr hg hm hk hb hK hmg tk ha hdb he hpl
end
end DL
end
section
namespace DL
open PySem PySem.Spec PyProof.Rows L2
/-- the law's promise, whatever the module's names -/
def spE (K : PySem.W.Frag) (f : DF) : Sp := fun vs H Q E => vs.length = 1 ∧ ∀ mg, spM K mg 1 f vs H Q E
theorem FnG.toE {P : Program} {w : World} {K : PySem.W.Frag} {mg : Str → Option Value} {base : Heap} {k : Nat} {a : Addr} {fd : FuncData} {x : Str} {f : DF} (F : FnG P w K mg base k a fd [x] (spM K mg 1 f)) : FnG P w K mg base k a fd [x] (spE K f) :=
  ⟨fun vs H Q E h => h.1, fun A outer s H args us vs Q E hr e0 hb r h => F.run A outer s H args us vs Q E hr e0 hb r (h.2 mg)⟩
theorem noX {P : Program} {w : World} {H : Hp} {s : Shared} {e : Value} {s' : Shared} (z : L2.CX P w [] H s (fun _ _ _ => False) e s') : False := by
  obtain ⟨_, _, _, _, _, _, _, _, _, _, _, _, h⟩ := z
  exact h
theorem spE_law {K : PySem.W.Frag} {f : DF} (hlaw : ∀ ns : List Int, ns.length ≤ 63 → f [.lst (ns.map .int)] [] = .ok (.bl true) []) {H : Hp} {a : Addr} {ns : List Int} (hl : ns.length ≤ 63) (hS : Rd H a (.lst (ns.map V.int))) (hT : LamX.Tabs (tabsK K) H) : spE K f [.ref a] H (fun v _ => v = .bl true) fun _ _ _ => False := by
  refine ⟨rfl, fun mg => ⟨rfl, fun _ => False, [], [.lst (ns.map .int)], [], ?_, ?_, ?_⟩⟩
  · exact ⟨List.nodup_nil, List.prefix_refl _, .nil, fun _ h => (nomatch h), fun _ h => (nomatch h), fun _ _ e _ _ => e, fun _ h => False.elim h, fun _ h => (nomatch h), fun _ o e => ⟨o, e⟩, hT⟩
  · have z : ∀ ns : List Int, DzAll K (fun a => False ∨ a ∈ ([] : List Addr)) H (ns.map V.int) (ns.map .int) := fun ns => by
      induction ns with
      | nil => exact .nil
      | cons n r ih => exact .cons (.int n) ih
    exact .cons (.pd (.lst (fun w => w.elim id fun h => (nomatch h)) hS (z ns))) .nil
  · rw [hlaw ns hl]
    intro L' H' x r v dn
    exact den_bl dn
end DL
end
section
namespace DL
open PySem PySem.Spec PyProof.Rows L2
open Classical
section
variable {g g' : G} {E : WX} {L L' L0 : List Addr} {H H' H0 : Hp} {S S' : Sto} {σd : Sl} {σ : L2.St} {v : V} {d : D}
variable {X : Cx} {tg a b c e : Expr} {me ma mb : DM D} {ml : DM (List D)} {pos p p2 tpos px py pz pt : Pos}
/-! ### a, b = x, y; a, b, c = x, y, z: plain local names -/
def sPar (i j : Nat) (ml : DM (List D)) : DM Fl := fun σ S => (ml σ S).bind fun ds S' => match ds with
  | [d, e] => .ok (.next ((σ.set i (some d)).set j (some e))) S'
  | _ => .stuck
def sPar3 (i j l : Nat) (ml : DM (List D)) : DM Fl := fun σ S => (ml σ S).bind fun ds S' => match ds with
  | [d, e, f] => .ok (.next (((σ.set i (some d)).set j (some e)).set l (some f))) S'
  | _ => .stuck
theorem qs_par {i j : Nat} {x y : Str} {kt k2 pt2} (hc : X.calm = true) (hN : X.N.Nodup) (hi : X.N[i]? = some x) (hj : X.N[j]? = some y) (hij : i ≠ j)
    (hx : X.env.scope.names.lookup x = some .local) (hy : X.env.scope.names.lookup y = some .local) (ha : PA X [a, b] (TL g E ml))
    (hw : swappedStores [.Tuple [.Name x px, .Name y py] kt pt] (.Tuple [a, b] k2 pt2) X.env = pure (some [x, y]))
    (hs : swapsWithSole [.Tuple [.Name x px, .Name y py] kt pt] (.Tuple [a, b] k2 pt2) pos.line X.env = pure false := by rfl) :
    PS X (.Assign [.Tuple [.Name x px, .Name y py] kt pt] (.Tuple [a, b] k2 pt2) pos) (TSt g E (sPar i j ml)) :=
  PS.imp (PS.len (ps_par hc hN hi hj hij hx hy ha hw hs)) fun D σ H ⟨L, σd, S, rp, sl, ev⟩ hl => ⟨L, σd, S, rp, sl, (Ev.bind ev).imp fun ds S' L' H' x r' ev' vs dn => by
    have l1 : i < σ.length := by rw [hl]; exact (List.getElem?_eq_some_iff.mp hi).1
    have l2 : j < σ.length := by rw [hl]; exact (List.getElem?_eq_some_iff.mp hj).1
    split at ev'
    · cases dn with
      | cons d1 dn =>
        cases dn with
        | cons d2 dn =>
          cases dn
          exact ⟨_, _, rfl, ev'.ok r' _ (((sl.ext rp x).put d1 i l1).put d2 j (by rw [List.length_set]; exact l2))⟩
    · exact ev'.elim⟩
theorem qs_par3 {i j l : Nat} {x y z : Str} {kt k2 pt2} (hc : X.calm = true) (hN : X.N.Nodup) (hi : X.N[i]? = some x) (hj : X.N[j]? = some y) (hl : X.N[l]? = some z) (hij : i ≠ j) (hil : i ≠ l) (hjl : j ≠ l)
    (hx : X.env.scope.names.lookup x = some .local) (hy : X.env.scope.names.lookup y = some .local) (hz : X.env.scope.names.lookup z = some .local) (ha : PA X [a, b, c] (TL g E ml))
    (hw : swappedStores [.Tuple [.Name x px, .Name y py, .Name z pz] kt pt] (.Tuple [a, b, c] k2 pt2) X.env = pure (some [x, y, z]))
    (hs : swapsWithSole [.Tuple [.Name x px, .Name y py, .Name z pz] kt pt] (.Tuple [a, b, c] k2 pt2) pos.line X.env = pure false := by rfl) :
    PS X (.Assign [.Tuple [.Name x px, .Name y py, .Name z pz] kt pt] (.Tuple [a, b, c] k2 pt2) pos) (TSt g E (sPar3 i j l ml)) :=
  PS.imp (PS.len (ps_par3 hc hN hi hj hl hij hil hjl hx hy hz ha hw hs)) fun D σ H ⟨L, σd, S, rp, sl, ev⟩ hn => ⟨L, σd, S, rp, sl, (Ev.bind ev).imp fun ds S' L' H' x r' ev' vs dn => by
    have l1 : i < σ.length := by rw [hn]; exact (List.getElem?_eq_some_iff.mp hi).1
    have l2 : j < σ.length := by rw [hn]; exact (List.getElem?_eq_some_iff.mp hj).1
    have l3 : l < σ.length := by rw [hn]; exact (List.getElem?_eq_some_iff.mp hl).1
    split at ev'
    · cases dn with
      | cons d1 dn =>
        cases dn with
        | cons d2 dn =>
          cases dn with
          | cons d3 dn =>
            cases dn
            exact ⟨_, _, _, rfl, ev'.ok r' _ ((((sl.ext rp x).put d1 i l1).put d2 j (by rw [List.length_set]; exact l2)).put d3 l (by rw [List.length_set, List.length_set]; exact l3))⟩
    · exact ev'.elim⟩
/-! ### list(range(n)) that changes -/
noncomputable def eRgM1 (m : DM D) : DM D := mBind m fun d => fun _ S => match d with
  | .pd (.int n) => if RgOk 0 n then .ok (.ref S.length) (S ++ [.lst ((rgD 0 n).map D.pd)]) else .stuck
  | _ => .stuck
theorem rg_dens (a b : Int) : Dens g L H ((rgD a b).map D.pd) (rgV a b) := by
  unfold rgV rgD
  generalize List.range (b - a).toNat = l
  induction l with
  | nil => exact .nil
  | cons x l ih => exact .cons (.pd (.int _)) ih
theorem px_lstRgM1 (hc : X.calm = true) (hg : Gl X "list") (hm : X.mg "list" = none) (hg2 : Gl X "range") (hm2 : X.mg "range" = none) (ha : PE X a (T g E ma)) {p pos p2 pos2 : Pos} (na : starEach [a] X.env = (false, eval a X.env) :: starEach [] X.env := by rfl)
    (nb : starEach [.Call (.Name "range" p2) [a] [] pos2] X.env = (false, eval (.Call (.Name "range" p2) [a] [] pos2) X.env) :: starEach [] X.env := by rfl) :
    PE X (.Call (.Name "list" p) [.Call (.Name "range" p2) [a] [] pos2] [] pos) (T g E (eRgM1 ma)) :=
  PE.imp (pe_listRg hc hg hm (prg_1 hg2 hm2 ha na) nb) fun σ H Q ⟨L, σd, S, rp, sl, ev⟩ => ⟨L, σd, S, rp, sl, ev.step fun d S1 L1 H1 x1 r1 ev1 v dn => by
    split at ev1
    · rename_i n
      cases den_int dn
      split at ev1
      · rename_i hr
        exact ⟨n, rfl, hr, fin_lstM r1 ev1 (rg_dens 0 n)⟩
      · exact ev1.elim
    · exact ev1.elim⟩
end
end DL
end
section
/-! DL24: enumerate of a tuple -/
namespace DL
open PySem PySem.Spec PyProof.Rows L2
open Sem (wp)
open AutoSeq1 (wpAny_loadPart')
theorem meets_enumT (l : Addr) (items : Array Value) (n : Nat) (dct : Option Addr) (sl : Array (Option Value)) :
    Meets (Builtin.«enumerate.__new__» ⟨[.type "enumerate", .ref l], []⟩) (fun _ R s => s.heap.get? l = some { cls := .type "tuple", dict := dct, data := .seq items n, slots := sl } ∧
      R (.ok (.ret (.ref (s.heap.push { cls := .type "tuple_iterator", data := .fields #[.ref l, .int 0 0] }).objs.size)))
        { s with heap := (s.heap.push { cls := .type "tuple_iterator", data := .fields #[.ref l, .int 0 0] }).push { cls := .type "enumerate", data := .fields #[.none, .bool false, .ref s.heap.objs.size, rawInt 0, .none, .none] } }) :=
  .of_wp fun prog w A R s h => by
    obtain ⟨hp, g, d, tk, os⟩ := s; obtain ⟨hl, h⟩ := h
    have hsub := sub_enumerate
    have hL : Heap.IsTuple (Shared.heap ⟨hp, g, d, tk, os⟩) l items := ⟨_, hl, rfl, n, rfl⟩
    wp_walk using wpAny_loadPart' hl
    refine wpAny_stack_any fun st => wpAny_pure ?_
    split
    · rename_i c _ _ _ _ _
      cases (c == Value.type "enumerate")
      · wp_walk using wpAny_loadPart' hl, wpAny_pyIter_tuple hL
        exact ⟨_, rfl, h⟩
      · wp_walk using wpAny_loadPart' hl, wpAny_pyIter_tuple hL
        exact ⟨_, rfl, h⟩
    · wp_walk using wpAny_loadPart' hl, wpAny_pyIter_tuple hL
      exact ⟨_, rfl, h⟩
theorem call_enumT {prog : Program} {w : World} {A : Around} {E : Value → Shared → Prop} {s : Shared} {l : Addr} {items : Array Value} {Q : Value → Shared → Prop} (hL : s.heap.IsTuple l items)
    (h : ∀ h', IsEnum h' (s.heap.objs.size + 1) s.heap.objs.size 0 .none → h'.IsTupleIter s.heap.objs.size l 0 → h'.objs.size = s.heap.objs.size + 2 →
      (∀ b o, s.heap.get? b = some o → h'.get? b = some o) → Q (.ref (s.heap.objs.size + 1)) { s with heap := h' }) :
    wpAny (model prog w) A (call (.type "enumerate") [.ref l]) Q E s := by
  obtain ⟨⟨c, dct, dt, sl⟩, hl, hc, n, hd⟩ := hL
  replace hc : c = .type "tuple" := hc
  replace hd : dt = .seq items n := hd
  subst hc hd
  refine callType_new F.called_enumerate (by decide) (F.typeCall_enumerate_1 _) (F.newCall_enumerate_1 _) (fun obj => F.args_object_init_2 obj _) F.entry_enumerate_new
    (meets_enumT l items n dct sl) ⟨hl, ?_⟩
  have hz : (s.heap.push { cls := .type "tuple_iterator", data := .fields #[.ref l, .int 0 0] }).objs.size = s.heap.objs.size + 1 := Heap.size_push ..
  show _ ∧ _
  rw [hz]
  have he : IsEnum ((s.heap.push { cls := .type "tuple_iterator", data := .fields #[.ref l, .int 0 0] }).push
      { cls := .type "enumerate", data := .fields #[.none, .bool false, .ref s.heap.objs.size, rawInt 0, .none, .none] }) (s.heap.objs.size + 1) s.heap.objs.size 0 .none := by
    have := Heap.get?_push_size (s.heap.push { cls := .type "tuple_iterator", data := .fields #[.ref l, .int 0 0] })
      (o := { cls := .type "enumerate", data := .fields #[.none, .bool false, .ref s.heap.objs.size, rawInt 0, .none, .none] }) rfl
    rw [hz] at this; exact this
  refine ⟨⟨_, he, rfl⟩, h _ he ⟨_, Heap.get?_push_of_some _ (Heap.get?_push_size _ rfl), rfl, rfl⟩ (by rw [Heap.size_push, hz]) fun b o x => Heap.get?_push_of_some _ (Heap.get?_push_of_some _ x)⟩
/-- the tuple at a, each item in a new pair behind its number -/
def IteT (K : PySem.W.Frag) (a : Addr) : It :=
  ⟨fun i H => ∃ (xs : List V) (x : V), SqT K H a xs ∧ xs[i]? = some x, fun i H v H' => ∃ T x, v = .ref T ∧ H T = none ∧ H' = upd H T (.tup [.int (i : Nat), x]) ∧ ∀ xs, SqT K H a xs → xs[i]? = some x, fun i H => ∃ xs : List V, SqT K H a xs ∧ xs.length ≤ i⟩
theorem pyNext_enumT_end {prog : Program} {w : World} {A : Around} {E : Value → Shared → Prop} {s : Shared} {e it t : Addr} {i : Nat} {items : Array Value} {old : Value} {Q : Option Value → Shared → Prop} (hh : A.handled = none)
    (he : IsEnum s.heap e it i old) (hit : s.heap.IsTupleIter it t i) (hl : s.heap.IsTuple t items) (hx : items[i]? = none)
    (hQ : ∀ h', Heap.ExtBut it s.heap h' → Q none { s with heap := h' }) : wpAny (model prog w) A (pyNext (.ref e)) Q E s := by
  have hTy : s.TypeIs (.ref e) "enumerate" := ⟨_, he, rfl⟩
  unfold pyNext
  refine wpAny_bind (wpAny_attempt (wpAny_callSpecial?_slot (name := Str.ofString "__next__") hTy F.slot_enumerate_next
    (wpAny_call_entry F.slot_enumerate_next hTy F.entry_enumerate_next ?_ (F.args_enumerate_next_1 _))))
  show wpAny _ _ (field (.ref e) 2 >>= _) _ _ _
  refine wpAny_bind (wpAny_field he rfl (x := .ref it) rfl ?_)
  refine wpAny_bind (wpAny_nextOf_tuple_end (A := A.in1) (show A.in1.handled = none from hh) hit hl hx fun h' x he' hx' => ?_)
  obtain ⟨o, ho, hc⟩ := hx'
  refine wpAny_bind (wpAny_isInstance (T := "StopIteration") (b := true) ⟨o, ho, hc⟩ isSubtype_stop ?_)
  exact wpAny_pure (hQ _ he')
theorem turn_enumT {P : Program} {w : World} {K : PySem.W.Frag} {elts : List Expr} {kk : Nat} {tpos : Pos} (a e it : Addr) :
    Turn P w K (.Tuple elts kk tpos) (IteT K a) [e, it] e (fun i h => (∃ old, IsEnum h e it ((i : Nat) : Int) old) ∧ h.IsTupleIter it a i ∧ e ≠ it ∧ a ≠ it ∧ e ≠ a) where
  mem := by simp
  obj := fun i h st b hb => by
    obtain ⟨⟨old, he⟩, ⟨o, ho, hc, hd⟩, _⟩ := st
    have e' : b = e ∨ b = it := by simpa using hb
    rcases e' with z | z
    · rw [z]; exact ⟨_, he, fun v q => nomatch q⟩
    · rw [z]; exact ⟨o, ho, fun v q => by rw [hd] at q; cases q⟩
  keep := fun i h h' st k => let ⟨⟨old, he⟩, hi, hne⟩ := st; ⟨⟨old, k e (by simp) _ he⟩, hi.at fun o q => k it (by simp) o q, hne⟩
  item := by
    intro X hP hw hK hc i pins s σ H E I hf st hg
    subst hP hw hK
    obtain ⟨⟨old, he⟩, hit, hne, hai, hea⟩ := st
    obtain ⟨xs, x, hq, hx⟩ := hg
    obtain ⟨its, rv, p, hz⟩ := I.tuple hq
    obtain ⟨u, hu, ru⟩ := rv.get hx
    have hel : e < s.heap.objs.size := Heap.lt_size he
    have hil : it < s.heap.objs.size := by obtain ⟨_, q, _⟩ := hit; exact Heap.lt_size q
    have hlt : i < its.toArray.size := by
      have := (List.getElem?_eq_some_iff.mp hu).1
      simpa using this
    refine wpAny_pyNext_enum_itemD (Draws.tuple (A := X.A.in1) (show X.A.in1.handled = none from I.ok.hd hc) it a hai its.toArray) he ⟨hit, p⟩ hlt hne (by simp [hne, hea]) fun y h' tk hy ho hst hT hsz hk => ?_
    obtain ⟨hit', p'⟩ := hst
    have hyu : y = u := by
      have hy : its.toArray[i]? = some y := hy
      have : its.toArray[i]? = some u := by simpa using hu
      rw [this] at hy
      exact (Option.some.inj hy).symm
    subst hyu
    refine ⟨_, rfl, wpAny_letOwnedTupleGo_enum (s := { s with heap := h', toks := tk + 1 }) ho fun h'' he' sb => ?_⟩
    have hT2 : h''.get? s.heap.objs.size = some { cls := .type "tuple", data := .seq #[.int i tk, y] } := (sb.2 _ (Nat.ne_of_gt hel)).trans hT
    have new : ObjOk X.prog X.w (upd H s.heap.objs.size (.tup [.int (i : Nat), x])) h'' s.heap.objs.size (.tup [.int (i : Nat), x]) :=
      ⟨by show 2 ≤ sizeLine; decide, [.int i tk, y], .cons ⟨_, rfl⟩ (.cons ru .nil), ⟨_, hT2, rfl, _, rfl⟩⟩
    have I1 : Inv X pins σ (upd H s.heap.objs.size (.tup [.int (i : Nat), x])) { s with heap := h'', toks := tk + 1 } :=
      I.turnedNew (ch := [e, it]) (fun b ob hb q => (sb.2 b (fun z => hb (by simp [z]))).trans (hk b ob (fun z => hb (by simp [z])) (fun z => hb (by simp [z])) q)) hf (Nat.le_refl _) new
    refine ⟨.ref s.heap.objs.size, _, I1, rfl, ⟨_, x, rfl, I.hok.fresh (Nat.le_refl _), rfl, fun ys hy => by rw [I.tuple_inj hy hq]; exact hx⟩, ⟨⟨y, ?_⟩, hit'.at fun o q => (sb.2 it (Ne.symm hne)).trans q, hne, hai, hea⟩, fun b hb => ?_⟩
    · have e1 : ((i + 1 : Nat) : Int) = (i : Int) + 1 := by omega
      rw [e1]; exact he'
    · have hb' : b < s.heap.objs.size := by
        have e' : b = e ∨ b = it := by simpa using hb
        rcases e' with z | z
        · rw [z]; exact hel
        · rw [z]; exact hil
      rw [upd_ne (Nat.ne_of_lt hb')]
      exact (hf b hb).1
  done := by
    intro X hP hw hK hc i pins s σ H E I hf st hg
    subst hP hw hK
    obtain ⟨⟨old, he⟩, hit, hne, hai, hea⟩ := st
    obtain ⟨xs, hq, hx⟩ := hg
    obtain ⟨its, rv, p, hz⟩ := I.tuple hq
    obtain ⟨f0, f1, f2, f3, f4, f5⟩ := hf it (by simp)
    have hl := rv.length
    exact pyNext_enumT_end (I.ok.hd hc) he hit p (by simp; omega) fun h' eb => ⟨rfl, I.turned (t' := s.toks) (fun b o hb q => eb b o hb q) f0 f1 f3 f4 f5⟩
  self := fun A i s Q E st h => let ⟨⟨_, he⟩, _⟩ := st; wpAny_pyIter_enum he h
/-- enumerate of a list that stays, of a tuple -/
def iEnumA (K : PySem.W.Frag) (ta : TA) : TI := fun σ H R => ta σ H fun vs H1 => ∃ a xs, vs = [.ref a] ∧ ((SqL K H1 a xs ∧ R (Ite K a) H1) ∨ (SqT K H1 a xs ∧ R (IteT K a) H1))
theorem pi_enumA {X : Cx} {e : Expr} {ta : TA} {p pos tpos : Pos} {elts : List Expr} {kk : Nat} (hg : Gl X "enumerate") (hm : X.mg "enumerate" = none) (ha : PA X [e] ta) (hs : starEach [e] X.env = [(false, eval e X.env)] := by rfl) :
    PI X (.Tuple elts kk tpos) (.Call (.Name "enumerate" p) [e] [] pos) (iEnumA X.K ta) := by
  refine ⟨fun pins s σ H R I h => ?_⟩
  refine Call_ (ld_blt I hg hm boot_enumerate (PyProof.Rows.callWith_type1 (thn (ha.run pos pins s σ H _ I h) fun us s1 ⟨vs, H1, I1, r1, q1⟩ => ?_) hs rfl))
  obtain ⟨a, xs, ex, q1⟩ := q1
  subst ex
  cases r1 with
  | cons r rr =>
    cases rr
    cases r
    rcases q1 with ⟨hq, q⟩ | ⟨hq, q⟩
    · obtain ⟨its, rv, p', hz⟩ := I1.list hq
      refine call_enumerate_list p'.isList fun h' he hit hsz hk => wpAny_pyIter_enum he ?_
      have I2 : Inv X pins σ H1 { s1 with heap := h' } := I1.kept (t' := s1.toks) hk
      refine ⟨s1.heap.objs.size + 1, [s1.heap.objs.size + 1, s1.heap.objs.size], _, _, H1, rfl, I2, turn_enum a (s1.heap.objs.size + 1) s1.heap.objs.size, ⟨⟨.none, he⟩, hit, Nat.succ_ne_self _⟩, fun b hb => ?_, q⟩
      have e' : b = s1.heap.objs.size + 1 ∨ b = s1.heap.objs.size := by simpa using hb
      have hle : s1.heap.objs.size ≤ b := by
        rcases e' with z | z
        · rw [z]; exact Nat.le_add_right _ _
        · rw [z]; exact Nat.le_refl _
      exact I1.fpOk hle (I1.hok.fresh hle)
    · obtain ⟨its, rv, p', hz⟩ := I1.tuple hq
      have hal : a < s1.heap.objs.size := by obtain ⟨_, q, _⟩ := p'; exact Heap.lt_size q
      refine call_enumT p' fun h' he hit hsz hk => wpAny_pyIter_enum he ?_
      have I2 : Inv X pins σ H1 { s1 with heap := h' } := I1.kept (t' := s1.toks) hk
      refine ⟨s1.heap.objs.size + 1, [s1.heap.objs.size + 1, s1.heap.objs.size], _, _, H1, rfl, I2, turn_enumT a (s1.heap.objs.size + 1) s1.heap.objs.size, ⟨⟨.none, he⟩, hit, Nat.succ_ne_self _, Nat.ne_of_lt hal, Nat.ne_of_gt (Nat.lt_succ_of_lt hal)⟩, fun b hb => ?_, q⟩
      have e' : b = s1.heap.objs.size + 1 ∨ b = s1.heap.objs.size := by simpa using hb
      have hle : s1.heap.objs.size ≤ b := by
        rcases e' with z | z
        · rw [z]; exact Nat.le_add_right _ _
        · rw [z]; exact Nat.le_refl _
      exact I1.fpOk hle (I1.hok.fresh hle)
end DL
end
section
namespace DL
open PySem PySem.Spec PyProof.Rows L2

/-! ### constants of the module that are data -/
def CstD (K : PySem.W.Frag) (mg : Str → Option Value) (x : Str) (d : PyData) : Prop := ∃ u v, mg x = some u ∧ RelV v u ∧ ∀ W H, Dz K W H v d
section
variable {X : Cx} {g : G} {E : WX} {x : Str} {d : PyData} {pos : Pos}
theorem px_cst (hK : X.K = g.K) (hg : Gl X x) (hm : CstD X.K X.mg x d) (hdb : (x == ("__debug__" : Str)) = false := by decide) : PE X (.Name x pos) (T g E (eK (.pd d))) := by
  obtain ⟨u, v, hm, rv, hd⟩ := hm
  exact pd_globD hg hm rv (hK ▸ hd) hdb
end
inductive StrsAre : List Value → List Str → Prop
  | nil : StrsAre [] []
  | cons {x : Str} {t : Tok} {us : List Value} {xs : List Str} : StrsAre us xs → StrsAre (.str x t :: us) (x :: xs)
theorem StrsAre.vals : ∀ {us : List Value} {xs : List Str}, StrsAre us xs → Vals (xs.map V.str) us
  | _, _, .nil => .nil
  | _, _, .cons h => .cons ⟨_, rfl⟩ h.vals
theorem StrsAre.len : ∀ {us : List Value} {xs : List Str}, StrsAre us xs → us.length = xs.length
  | _, _, .nil => rfl
  | _, _, .cons h => by rw [List.length_cons, List.length_cons, h.len]
theorem dz_strs {K : PySem.W.Frag} {W : Addr → Prop} {H : Hp} : ∀ xs : List Str, DzAll K W H (xs.map V.str) (xs.map PyData.str)
  | [] => .nil
  | x :: xs => .cons (.str x) (dz_strs xs)
theorem cst_strs {K : PySem.W.Frag} {mg : Str → Option Value} {x : Str} {a : Addr} {od : Option Addr} {us : List Value} {n : Nat} {sl : Array (Option Value)} {xs : List Str} (hm : mg x = some (.ref a)) (hl : K.lookup a = some ⟨.type "tuple", od, .seq us.toArray n, sl⟩) (h : StrsAre us xs) (hz : xs.length ≤ sizeLine := by decide) :
    CstD K mg x (.tuple (xs.map .str)) :=
  ⟨_, .ref a, hm, rfl, fun W H => .tup (.inr ⟨_, _, n, hl, rfl, rfl, by rw [List.size_toArray, h.len]; exact hz, h.vals⟩) (dz_strs xs)⟩

/-! ### a dict of the module: texts to defs -/
structure TabD (K : PySem.W.Frag) (P : Params) (mg : Str → Option Value) (x : Str) (ks : List (Str × Str)) (no : List Str) : Prop where
  ex : ∃ (d : Addr) (es : Array DictEntry) (n : Nat), mg x = some (.ref d) ∧ K.lookup d = some ⟨.type "dict", none, .dict es n, #[]⟩ ∧ PySem.W.KeysLit P es.toList ∧ (d == sysModules) = false ∧
    (∀ p ∈ ks, ∃ a, PySem.W.nsIn K d p.1 = some (some (.ref a)) ∧ mg p.2 = some (.ref a)) ∧ (∀ z ∈ no, PySem.W.nsIn K d z = some none) ∧ StrsAre (es.toList.map (·.key)) (ks.map (·.1))
inductive EntsAre (P : Params) (mg : Str → Option Value) : List DictEntry → List (Str × Str) → Prop
  | nil : EntsAre P mg [] []
  | cons {x f : Str} {t : Tok} {a : Addr} {es : List DictEntry} {ks : List (Str × Str)} : mg f = some (.ref a) → EntsAre P mg es ks → EntsAre P mg (⟨PyData.keyHash P x, .str x t, .ref a⟩ :: es) ((x, f) :: ks)
theorem EntsAre.lit {P : Params} {mg : Str → Option Value} : ∀ {es : List DictEntry} {ks : List (Str × Str)}, EntsAre P mg es ks → PySem.W.KeysLit P es
  | _, _, .nil => trivial
  | _, _, .cons _ h => ⟨⟨_, _, rfl, rfl⟩, h.lit⟩
theorem EntsAre.strs {P : Params} {mg : Str → Option Value} : ∀ {es : List DictEntry} {ks : List (Str × Str)}, EntsAre P mg es ks → StrsAre (es.map (·.key)) (ks.map (·.1))
  | _, _, .nil => .nil
  | _, _, .cons _ h => .cons h.strs
theorem isStr_str {x z : Str} {t : Tok} : (Value.str x t).isStr z = true ↔ x = z := by
  show (x == z) = true ↔ x = z
  exact beq_iff_eq
theorem EntsAre.find {P : Params} {mg : Str → Option Value} : ∀ {es : List DictEntry} {ks : List (Str × Str)}, EntsAre P mg es ks → (ks.map (·.1)).Nodup → ∀ p ∈ ks, ∃ e, es.find? (·.key.isStr p.1) = some e ∧ ∃ a, e.val = .ref a ∧ mg p.2 = some (.ref a)
  | _, _, .nil, _, _, h => by cases h
  | _, _, .cons (x := x) (t := t) hm h, nd, p, hp => by
    rw [List.map_cons, List.nodup_cons] at nd
    rcases List.mem_cons.mp hp with rfl | hp
    · exact ⟨_, by rw [List.find?_cons_of_pos]; exact isStr_str.mpr rfl, _, rfl, hm⟩
    · have hne : x ≠ p.1 := fun z => nd.1 (by rw [z]; exact List.mem_map.mpr ⟨p, hp, rfl⟩)
      obtain ⟨e, he, r⟩ := h.find nd.2 p hp
      exact ⟨e, by rw [List.find?_cons_of_neg]; exact he; exact fun z => hne (isStr_str.mp z), r⟩
theorem EntsAre.miss {P : Params} {mg : Str → Option Value} {z : Str} : ∀ {es : List DictEntry} {ks : List (Str × Str)}, EntsAre P mg es ks → z ∉ ks.map (·.1) → es.find? (·.key.isStr z) = none ∧ es.any (·.refKey) = false
  | _, _, .nil, _ => ⟨rfl, rfl⟩
  | _, _, .cons (x := x) hm h, nd => by
    rw [List.map_cons, List.mem_cons, not_or] at nd
    obtain ⟨h1, h2⟩ := h.miss nd.2
    refine ⟨by rw [List.find?_cons_of_neg]; exact h1; exact fun q => nd.1 (isStr_str.mp q).symm, ?_⟩
    rw [List.any_cons, h2, Bool.or_false]
    rfl
theorem tab_of {K : PySem.W.Frag} {P : Params} {mg : Str → Option Value} {x : Str} {d : Addr} {es : List DictEntry} {n : Nat} {ks : List (Str × Str)} {no : List Str} (hm : mg x = some (.ref d)) (hl : K.lookup d = some ⟨.type "dict", none, .dict es.toArray n, #[]⟩) (hlow : (d == sysModules) = false) (h : EntsAre P mg es ks)
    (nd : (ks.map (·.1)).Nodup := by decide) (hno : ∀ z ∈ no, z ∉ ks.map (·.1) := by decide) : TabD K P mg x ks no :=
  ⟨d, es.toArray, n, hm, hl, h.lit, hlow, fun p hp => by
    obtain ⟨e, he, a, ha, hf⟩ := h.find nd p hp
    refine ⟨a, ?_, hf⟩
    unfold PySem.W.nsIn
    rw [hl]
    simp only [he, ha], fun z hz => by
    obtain ⟨h1, h2⟩ := h.miss (hno z hz)
    unfold PySem.W.nsIn
    rw [hl]
    simp only [h1, h2]
    rfl, h.strs⟩
section
variable {X : Cx} {g : G} {E : WX} {x : Str} {ks : List (Str × Str)} {no : List Str} {p p2 pos : Pos} {e a : Expr} {es : List Expr} {ma : DM D} {ml : DM (List D)} {L : List Addr} {H : Hp} {S : Sto} {σd : Sl} {σ : L2.St}
/-- word in TAB, word not in TAB -/
def tabIn (ne : Bool) (ks : List (Str × Str)) (no : List Str) : D → DM D := fun d _ S => match d with
  | .pd (.str z) => if z ∈ ks.map (·.1) then .ok (.bl (!ne)) S else if z ∈ no then .ok (.bl ne) S else .stuck
  | _ => .stuck
def eTabIn (ne : Bool) (ks : List (Str × Str)) (no : List Str) (m : DM D) : DM D := mBind m (tabIn ne ks no)
theorem tab_name {d : Addr} (hm : X.mg x = some (.ref d)) (hg : Gl X x) (hdb : (x == ("__debug__" : Str)) = false) : PE X (.Name x p) (tC (.ref d)) := pe_glob (v := .ref d) hg hm rfl hdb
theorem tabIn_reads {d : Addr} (ne : Bool) (hks : ∀ p ∈ ks, ∃ a, PySem.W.nsIn X.K d p.1 = some (some (.ref a)) ∧ X.mg p.2 = some (.ref a)) (hno : ∀ z ∈ no, PySem.W.nsIn X.K d z = some none) {Q : VK} (h : T g E (eTabIn ne ks no ma) σ H Q) :
    tOp (fun x y H Q => ∃ (z : Str) (r : Option Value), x = .str z ∧ y = .ref d ∧ PySem.W.nsIn X.K d z = some r ∧ Q (.bl (r.isSome ^^ ne)) H) (T g E ma) (tC (.ref d)) σ H Q := by
  obtain ⟨L, σd, S, rp, sl, ev⟩ := h
  refine ⟨L, σd, S, rp, sl, ev.step fun dx S1 L1 H1 x1 r1 ev1 v n1 => ?_⟩
  unfold tabIn at ev1
  split at ev1
  · rename_i z
    cases den_str n1
    split at ev1
    · rename_i hz
      obtain ⟨q, hq, e⟩ := List.mem_map.mp hz
      obtain ⟨a, ha, _⟩ := hks q hq
      rw [e] at ha
      exact ⟨z, _, rfl, rfl, ha, fin_val r1 ev1 (by simpa using .pd (.bl _))⟩
    · split at ev1
      · rename_i hz
        exact ⟨z, _, rfl, rfl, hno z hz, fin_val r1 ev1 (by simpa using .pd (.bl _))⟩
      · exact ev1.elim
  · exact ev1.elim
end
end DL
end
section
namespace DL
open PySem PySem.Spec PyProof.Rows L2
open PySem.W (AllAlike Sortable dataLe SortsAt EachIs)

/-! ### TAB of the module: in, not in, TAB[word](..), sorted(TAB) -/
section
variable {X : Cx} {g : G} {E : WX} {x : Str} {ks : List (Str × Str)} {no : List Str} {p p2 pos : Pos} {e a : Expr} {es : List Expr} {ma : DM D} {ml : DM (List D)} {L : List Addr} {H : Hp} {S : Sto} {σd : Sl} {σ : L2.St} {k n : Nat}
theorem opr_in {d : Addr} {es : Array DictEntry} {n : Nat} (D : KDict X.K X.w d es n) : OpR X (compareOp .In) (fun x y H Q => ∃ (z : Str) (r : Option Value), x = .str z ∧ y = .ref d ∧ PySem.W.nsIn X.K d z = some r ∧ Q (.bl (r.isSome ^^ false)) H) := by
  intro pins s σ H x y v u Q I rx ry ⟨z, r, h1, h2, h3, h4⟩
  exact op_in_kd D pins s σ H x y v u Q I rx ry ⟨z, r, h1, h2, h3, by rw [Bool.xor_false] at h4; exact h4⟩
theorem opr_nin {d : Addr} {es : Array DictEntry} {n : Nat} (D : KDict X.K X.w d es n) : OpR X (compareOp .NotIn) (fun x y H Q => ∃ (z : Str) (r : Option Value), x = .str z ∧ y = .ref d ∧ PySem.W.nsIn X.K d z = some r ∧ Q (.bl (r.isSome ^^ true)) H) := by
  intro pins s σ H x y v u Q I rx ry ⟨z, r, h1, h2, h3, h4⟩
  exact op_notIn_kd D pins s σ H x y v u Q I rx ry ⟨z, r, h1, h2, h3, by rw [Bool.xor_true] at h4; exact h4⟩
variable (hT : TabD X.K X.w.params X.mg x ks no) (hg : Gl X x) (ha : PE X a (T g E ma))
include hT hg ha
theorem px_tabIn (hm : behindInMarks .In (.Name x p) = false := by rfl) (hdb : (x == ("__debug__" : Str)) = false := by decide) : PE X (.Compare a [.In] [.Name x p] pos) (T g E (eTabIn false ks no ma)) := by
  obtain ⟨d, des, n, h1, h2, h3, h4, h5, h6, _⟩ := hT.ex
  exact PE.imp (pe_cmpR (opr_in ⟨h2, h3, h4⟩) ha (tab_name h1 hg hdb) hm) fun σ H Q h => tabIn_reads false h5 h6 h
theorem px_tabNin (hm : behindInMarks .NotIn (.Name x p) = false := by rfl) (hdb : (x == ("__debug__" : Str)) = false := by decide) : PE X (.Compare a [.NotIn] [.Name x p] pos) (T g E (eTabIn true ks no ma)) := by
  obtain ⟨d, des, n, h1, h2, h3, h4, h5, h6, _⟩ := hT.ex
  exact PE.imp (pe_cmpR (opr_nin ⟨h2, h3, h4⟩) ha (tab_name h1 hg hdb) hm) fun σ H Q h => tabIn_reads true h5 h6 h
omit hT hg ha in
theorem tab_test {σ : L2.St} {H : Hp} {Q : Bool → Hp → Prop} {m : DM D} (h : TB g E (eTest m) σ H Q) : T g E m σ H fun x H' => ∃ k, x = .bl k ∧ Q k H' := by
  obtain ⟨L, σd, S, rp, sl, ev⟩ := h
  exact ⟨L, σd, S, rp, sl, ev.step fun d S' L' H' x r' ev' v dn => asB_ok r' dn ev'⟩
theorem pt_tabIn (hm : behindInMarks .In (.Name x p) = false := by rfl) (hdb : (x == ("__debug__" : Str)) = false := by decide) : PT X (.Compare a [.In] [.Name x p] pos) (TB g E (eTest (eTabIn false ks no ma))) := by
  obtain ⟨d, des, n, h1, h2, h3, h4, h5, h6, _⟩ := hT.ex
  exact PT.imp (pt_cmpR (opr_in ⟨h2, h3, h4⟩) ha (tab_name h1 hg hdb) hm) fun σ H Q h => tabIn_reads false h5 h6 (tab_test h)
theorem pt_tabNin (hm : behindInMarks .NotIn (.Name x p) = false := by rfl) (hdb : (x == ("__debug__" : Str)) = false := by decide) : PT X (.Compare a [.NotIn] [.Name x p] pos) (TB g E (eTest (eTabIn true ks no ma))) := by
  obtain ⟨d, des, n, h1, h2, h3, h4, h5, h6, _⟩ := hT.ex
  exact PT.imp (pt_cmpR (opr_nin ⟨h2, h3, h4⟩) ha (tab_name h1 hg hdb) hm) fun σ H Q h => tabIn_reads true h5 h6 (tab_test h)
end
/-- TAB[word](..) -/
def tabGet : List (Str × DF) → Str → Option DF
  | [], _ => none
  | (x, f) :: r, z => if x = z then some f else tabGet r z
def tabFn (tab : List (Str × DF)) (z : D) : Option DF := match z with
  | .pd (.str w) => tabGet tab w
  | _ => none
def eTabCall (n : Nat) (tab : List (Str × DF)) (mk : DM D) (ml : DM (List D)) : DM D := mBind mk fun z => match tabFn tab z with
  | some f => mBind ml (callF n f)
  | none => fun _ _ => .stuck
inductive TabC (P : Program) (w : World) (K : PySem.W.Frag) (mg : Str → Option Value) (base : Heap) (k n : Nat) : List (Str × DF) → List (Str × Str) → Prop
  | nil {ks : List (Str × Str)} : TabC P w K mg base k n [] ks
  | cons {x f : Str} {ps : List Str} {m : DF} {tab : List (Str × DF)} {ks : List (Str × Str)} : Cal P w K mg base k f ps m → ps.length = n → TabC P w K mg base k n tab ks → TabC P w K mg base k n ((x, m) :: tab) ((x, f) :: ks)
theorem TabC.get {P : Program} {w : World} {K : PySem.W.Frag} {mg : Str → Option Value} {base : Heap} {k n : Nat} {tab : List (Str × DF)} {ks : List (Str × Str)} (h : TabC P w K mg base k n tab ks) {z : Str} {m : DF} (e : tabGet tab z = some m) :
    ∃ f ps, (z, f) ∈ ks ∧ ps.length = n ∧ Cal P w K mg base k f ps m := by
  induction h with
  | nil => cases e
  | cons c hl _ ih =>
    unfold tabGet at e
    split at e
    · rename_i q
      cases e
      subst q
      exact ⟨_, _, List.mem_cons_self, hl, c⟩
    · obtain ⟨f, ps, h1, h2⟩ := ih e
      exact ⟨f, ps, List.mem_cons_of_mem _ h1, h2⟩
section
variable {X : Cx} {g : G} {E : WX} {x : Str} {ks : List (Str × Str)} {no : List Str} {p p2 pos : Pos} {e a : Expr} {es : List Expr} {ma : DM D} {ml : DM (List D)} {L : List Addr} {H : Hp} {S : Sto} {σd : Sl} {σ : L2.St} {k n : Nat} {tab : List (Str × DF)}
theorem px_tabCall (hT : TabD X.K X.w.params X.mg x ks no) (hC : TabC X.prog X.w X.K X.mg X.base k n tab ks) (hg : Gl X x) (hr : RoomG k X.A) (hK : X.K = g.K) (hmg : X.mg = g.mg) (tk : Takes X E) (ha : PE X a (T g E ma)) (hl : PA X (e :: es) (TL g E ml))
    (hs : PlainIx a := by exact fun _ _ => rfl) (hdb : (x == ("__debug__" : Str)) = false := by decide)
    (ht : eval (.Call (.Subscript (.Name x p) a p2) (e :: es) [] pos) X.env = (do callWith pos (← eval (.Subscript (.Name x p) a p2) X.env) [] (backTo pos (starEach (e :: es) X.env)) (backToKw pos (keywordEach [] X.env))) := by rfl)
    (he : starEach (e :: es) X.env = (false, eval e X.env) :: starEach es X.env := by rfl) (hpl : (backTo pos (starEach es X.env)).any (·.1) = false := by rfl) :
    PE X (.Call (.Subscript (.Name x p) a p2) (e :: es) [] pos) (T g E (eTabCall n tab ma ml)) := by
  obtain ⟨d, des, dn, h1, h2, h3, h4, h5, h6, _⟩ := hT.ex
  have hsub : PE X (.Subscript (.Name x p) a p2) (tOp (rIxD X.K X.w) (tC (.ref d)) (T g E ma)) := pe_ix ix_kdict (tab_name h1 hg hdb) ha hs
  refine ⟨fun pins s σ H Q I h => ?_⟩
  have hq : tOp (rIxD X.K X.w) (tC (.ref d)) (T g E ma) σ H (fun y H1 => ∃ f a fd ps m, y = .ref a ∧ X.mg f = some (.ref a) ∧ ps.length = n ∧ FnG X.prog X.w X.K X.mg X.base k a fd ps (spM X.K X.mg ps.length m) ∧ PySem.W.keepIn X.K (.ref a) = true ∧ Binds X.K fd ps [] ∧ T g E (mBind ml (callF n m)) σ H1 Q) := by
    obtain ⟨L, σd, S, rp, sl, ev⟩ := h
    refine ⟨L, σd, S, rp, sl, ev.step fun dz S1 L1 H1 x1 r1 ev1 v n1 => ?_⟩
    cases em : tabFn tab dz with
    | none => rw [em] at ev1; exact ev1.elim
    | some m =>
      rw [em] at ev1
      unfold tabFn at em
      split at em
      · rename_i z
        cases den_str n1
        obtain ⟨f, ps, hm, hpl, C⟩ := hC.get em
        obtain ⟨a1, ha1, hf1⟩ := h5 _ hm
        obtain ⟨a2, fd, F, hf2, hk, hb⟩ := C.ex
        rw [hf1] at hf2
        cases hf2
        exact ⟨d, z, .ref a1, rfl, rfl, ⟨des, dn, _, h2, h3, ha1, rfl⟩, f, a1, fd, ps, m, rfl, hf1, hpl, F, hk, hb, L1, σd, S1, r1, sl.ext rp x1, ev1⟩
      · cases em
  refine Call_ (thn (hsub.run pins s σ H _ I hq) fun u s1 ⟨y, H1, I1, ry, f, a1, fd, ps, m, ey, hf, hpl2, F, hk, hb, q⟩ => ?_) ht
  subst ey
  obtain rfl : u = Value.ref a1 := ry
  subst hpl2
  exact PySem.W.callWith_K (h₀ := X.base) I1.ok.mod.kin hk (thn (hl.run pos pins s1 σ H1 _ I1 (call_reads hK hmg q)) fun us s2 ⟨vs, H2, I2, r, q2⟩ => ⟨I2.kIn, run_fnG (E := fun σ => WE E σ) F hr hb (passAt tk σ) I2 r (by simpa only [List.append_nil] using q2)⟩) he hpl
end
end DL
end
section
namespace DL
open PySem PySem.Spec PyProof.Rows L2
open PySem.W (AllAlike Sortable dataLe SortsAt EachIs)
/-! ### sorted(TAB) -/
def strLe (a b : Str) : Bool := decide (a.cps.toList ≤ b.cps.toList)
section
variable {prog : Program} {w : World} {A : Around} {E : Value → Shared → Prop} {s : Shared}
theorem strs_acc {es : Array DictEntry} {acc : Array Value} (h : ItemsOf (fun i v => ∃ hi : i < es.size, v = es[i].key) acc es.size) : acc.toList = es.toList.map (·.key) := by
  refine List.ext_getElem? fun i => ?_
  by_cases hi : i < es.size
  · have hia : i < acc.size := by rw [h.1]; exact hi
    obtain ⟨_, e⟩ := h.2 i acc[i] (by simp [hia])
    simp [hi, hia, e]
  · have hia : ¬ i < acc.size := by rw [h.1]; exact hi
    simp [hi, hia]
theorem strs_each {R : Value → Str → Prop} : ∀ {us : List Value} {xs : List Str}, StrsAre us xs → (∀ x t, R (.str x t) x) → EachIs R us xs
  | _, _, .nil, _ => .nil
  | _, _, .cons h, f => .cons (f _ _) (strs_each h f)
theorem each_strs : ∀ {us : List Value} {xs : List Str}, EachIs (fun v x => ∃ t, v = .str x t) us xs → StrsAre us xs
  | _, _, .nil => .nil
  | _, _, .cons ⟨t, e⟩ h => by subst e; exact .cons (each_strs h)
theorem sorted_dict {d : Addr} {es : Array DictEntry} {n : Nat} {xs : List Str} {Q : Value → Shared → Prop} (lo : (d == sysModules) = false) (hm : s.heap.DictRaw d es n) (hh : A.handled = none) (hk : StrsAre (es.toList.map (·.key)) xs) (hz : xs.length ≤ sizeLine) (hu : A.units + 4 < cLine)
    (h : ∀ (h1 : Heap) (tk1 : Nat) (h2 : Heap) (out : List Value) (ep : Nat), (∀ b o, s.heap.get? b = some o → h1.get? b = some o) → (∀ b o, h1.get? b = some o → h2.get? b = some o) → h2.get? h1.objs.size = some (seqObj "list" out.toArray ep) → StrsAre out (xs.mergeSort strLe) →
      Q (.ref h1.objs.size) { s with heap := h2, toks := tk1 }) :
    wpAny (model prog w) A (call (.builtin "sorted") [.ref d]) Q E s := by
  have hes : es.size = xs.length := by have := hk.len; simpa using this
  refine PySem.Calls.call_function_entry kind_sorted plain_sorted entry_sorted (args_sorted1 _) ?_
  unfold Builtin.«sorted»
  refine wpAny_bind (m := checkCount "sorted" 1 1 _) (wpAny_pure ?_)
  refine wpAny_bind (PySem.W.kdu_collect (A := A.in1) (KdlSrc.rawDict lo) hh hm (by rw [hes]; exact hz) fun h1 tk acc hk1 hacc => ?_)
  rw [strs_acc hacc]
  have hl : (es.toList.map (·.key)).length ≤ sizeLine := by rw [hk.len]; exact hz
  refine wpAny_bind (wpAny_newList ?_ hl)
  have ho : (h1.push (seqObj "list" (es.toList.map (·.key)).toArray 0)).get? h1.objs.size = some (seqObj "list" (es.toList.map (·.key)).toArray 0) := Heap.get?_push_size _ rfl
  refine wpAny_bind (wpAny_holding (PySem.W.list_sort_data (A := A.in1) (s := { s with heap := h1.push (seqObj "list" (es.toList.map (·.key)).toArray 0), toks := tk }) (R := fun v x => ∃ t, v = .str x t) (enc := fun x => PyData.str x) (bs := xs) ho (strs_each hk fun x t => ⟨t, rfl⟩) (strs_each hk fun x t => ⟨[], Reads.str x t, by simp⟩)
    (AllAlike.of fun _ _ => rfl) (Sortable.others fun b => ⟨by simp, by simp⟩) hz (fun b _ => by show A.units + 1 + 1 + (PyData.str b).depth < cLine; simp only [PyData.depth]; omega) fun out hlen ho2 => ?_))
  rw [PySem.W.dataLe_str (fun x => x)] at ho2
  obtain ⟨ep, hat⟩ := sortedHeap_at (out := out.toArray) ho
  refine wpAny_pure ⟨_, rfl, h h1 tk _ out ep hk1 (fun b o e => ?_) hat (each_strs ho2)⟩
  have hlt := Heap.lt_size e
  rw [sortedHeap_old (Nat.ne_of_lt hlt) (by rw [size_push']; exact Nat.lt_succ_of_lt hlt)]
  exact Heap.get?_push_of_some _ e
end
/-- the same list, by sight -/
theorem sort_is {xs ys : List Str} (hp : ys.Perm xs) (hs : ys.Pairwise fun a b => strLe a b = true) : xs.mergeSort strLe = ys := by
  have tr : ∀ a b c : Str, strLe a b = true → strLe b c = true → strLe a c = true := fun a b c h1 h2 => decide_eq_true (List.le_trans (of_decide_eq_true h1) (of_decide_eq_true h2))
  have tot : ∀ a b : Str, (strLe a b || strLe b a) = true := fun a b => by
    rcases List.le_total a.cps.toList b.cps.toList with h | h
    · simp [strLe, h]
    · simp [strLe, h]
  have h1 := List.pairwise_mergeSort tr tot xs
  refine List.Perm.eq_of_pairwise (le := fun a b => strLe a b = true) (fun a b _ _ h1 h2 => ?_) h1 hs ((List.mergeSort_perm _ _).trans hp.symm)
  exact PySem.W.str_of_cps (List.le_antisymm (of_decide_eq_true h1) (of_decide_eq_true h2))
section
variable {X : Cx} {g : G} {E : WX} {x : Str} {ks : List (Str × Str)} {no : List Str} {p p2 pos : Pos} {srt : List Str}
theorem px_tabSorted (hT : TabD X.K X.w.params X.mg x ks no) (hc : X.calm = true) (hu : X.A.units + 64 < cLine) (hS : (ks.map (·.1)).mergeSort strLe = srt) (hz : ks.length ≤ sizeLine) (hgs : Gl X "sorted") (hms : X.mg "sorted" = none) (hg : Gl X x) (hdb : (x == ("__debug__" : Str)) = false := by decide)
    (he : starEach [.Name x p] X.env = [(false, eval (.Name x p) X.env)] := by rfl) : PE X (.Call (.Name "sorted" p2) [.Name x p] [] pos) (T g E (eK (.lst (srt.map .str)))) := by
  obtain ⟨d, des, dn, h1, h2, h3, h4, h5, h6, h7⟩ := hT.ex
  have hc2 : CallR X (.builtin "sorted") (fun xs H Q => xs = [.ref d] ∧ ∀ p, H p = none → Q (.ref p) (upd H p (.lst (srt.map V.str)))) := by
    intro pins s σ H xs us Q I r h
    obtain ⟨rfl, q⟩ := h
    rw [Vals.ref1 r]
    refine sorted_dict h4 ⟨_, I.kIn _ _ h2, ⟨rfl, rfl, rfl⟩, rfl⟩ (I.ok.hd hc) h7 (by simpa using hz) (by omega) fun h1 tk1 h2 out ep k1 k2 hat hout => ?_
    rw [hS] at hout
    have I1 : Inv X pins σ H { s with heap := h1, toks := tk1 } := I.kept k1
    exact ⟨.ref _, upd H h1.objs.size (.lst (srt.map V.str)), L2.Inv.laid (s := { s with heap := h1, toks := tk1 }) (t' := tk1) I1 k2 (Nat.le_refl _) ⟨by rw [hout.vals.length, hout.len, ← hS, List.length_mergeSort]; simpa using hz, out, ep, hout.vals, hat⟩, rfl, q _ (I1.hok.fresh (Nat.le_refl _))⟩
  refine PE.imp (pe_callB hc2 hgs hms (by decide +kernel) (pa_cons (tab_name h1 hg hdb) pa_nil he) (by decide) (by decide) he) fun σ H Q ⟨L, σd, S, rp, sl, ev⟩ => ⟨rfl, ?_⟩
  exact fin_lst rp ev (dz_strs srt)
end
end DL
end
section
namespace DL
open PySem PySem.Spec PyProof.Rows L2

/-! ### enumerate -/
def enumIt : Nat → List PyData → List D
  | _, [] => []
  | i, x :: xs => .tup [.int (i : Nat), x] :: enumIt (i + 1) xs
theorem enumIt_len : ∀ (k : Nat) (xs : List PyData), (enumIt k xs).length = xs.length
  | _, [] => rfl
  | k, x :: xs => by rw [enumIt, List.length_cons, List.length_cons, enumIt_len]
theorem enumIt_get {d : D} : ∀ {k : Nat} {xs : List PyData} {i : Nat}, (enumIt k xs)[i]? = some d → ∃ x, xs[i]? = some x ∧ d = .tup [.int ((k + i : Nat) : Int), x]
  | _, [], i, e => by simp [enumIt] at e
  | k, x :: xs, 0, e => by simp [enumIt] at e; exact ⟨x, by simp, e.symm⟩
  | k, x :: xs, i + 1, e => by
    obtain ⟨y, h1, h2⟩ := enumIt_get (k := k + 1) (xs := xs) (i := i) (by simpa [enumIt] using e)
    exact ⟨y, by simpa using h1, by rw [h2, Nat.add_assoc, Nat.add_comm 1 i]⟩
def wkEnum : List D → DM Wk := fun ds _ S => match ds with
  | [.pd (.tuple xs)] => .ok ⟨enumIt 0 xs, .no⟩ S
  | [.pd (.list xs)] => .ok ⟨enumIt 0 xs, .no⟩ S
  | _ => .stuck
def iEnum (m : DM (List D)) : DM Wk := mBind m wkEnum
section
variable {g g' : G} {E : WX} {L : List Addr} {H H1 : Hp} {S : Sto} {σd : Sl} {σ : L2.St}
variable {X : Cx} {p pos tpos : Pos} {e a b : Expr} {ml : DM (List D)}
theorem ix_enum (hK : X.K = g.K) (hg : Gl X "enumerate") (hm : X.mg "enumerate" = none) {elts : List Expr} {kk : Nat} (ha : PA X [a] (TL g E ml)) (hs : starEach [a] X.env = [(false, eval a X.env)] := by rfl) :
    PI X (.Tuple elts kk tpos) (.Call (.Name "enumerate" p) [a] [] pos) (TW g E (iEnum ml)) :=
  PI.imp (pi_enumA hg hm ha hs) fun σ H R ⟨L, σd, S, rp, sl, ev⟩ => ⟨L, σd, S, rp, sl, ev.step fun ds S1 L1 H1 x1 r1 ev1 vs dn => by
    unfold wkEnum at ev1
    split at ev1
    · rename_i xs
      have fin := ev1.ok r1
      cases dn with
      | cons n1 n2 =>
        cases n2
        obtain ⟨p1, w1, rfl, t1, z1⟩ := den_tup n1
        rw [hK]
        refine ⟨p1, w1, rfl, .inr ⟨t1, fin _ fun g' L S H gx x r' _ => ?_⟩⟩
        have stay : SqT g.K H p1 w1 := SqT.keep t1 fun zs hz o e' it => x.keep p1 o e' it fun hm => by
          obtain ⟨o2, e2, nt⟩ := r1.there hm
          rcases hz with hz | ⟨o3, hz⟩
          · rw [hz] at e2; cases e2; exact nt.no_tup zs rfl
          · rw [hz] at e2; cases e2; exact nt.no_frz o3 _ rfl
        refine ⟨fun i d e => ?_, w1, stay, ?_⟩
        · obtain ⟨dx, ex, rfl⟩ := enumIt_get e
          obtain ⟨x', gx', zx⟩ := z1.get ex
          refine ⟨⟨w1, x', stay, gx'⟩, fun z H' hz => ?_⟩
          obtain ⟨T, x2, rfl, hT, rfl, f1⟩ := hz
          have e3 := f1 _ stay
          rw [gx'] at e3; cases e3
          have k := kpx r1 gx x
          rw [Nat.zero_add]
          exact pairNew r' hT (.int _) (gx.K ▸ zx.keep k)
        · rw [z1.len, enumIt_len]; exact Nat.le_refl _
    · rename_i xs
      have fin := ev1.ok r1
      cases dn with
      | cons n1 n2 =>
        cases n2
        cases n1 with
        | pd q1 =>
        cases q1 with
        | @lst p1 w1 _ nw1 t1 z1 =>
        rw [hK]
        refine ⟨p1, w1, rfl, .inl ⟨.inl t1, fin _ fun g' L S H gx x r' _ => ?_⟩⟩
        have stay : SqL g.K H p1 w1 := .inl (Rd.keep t1 fun o e' it => x.keep p1 o e' it fun hm => nw1 (.inr hm))
        refine ⟨fun i d e => ?_, w1, stay, ?_⟩
        · obtain ⟨dx, ex, rfl⟩ := enumIt_get e
          obtain ⟨x', gx', zx⟩ := z1.get ex
          refine ⟨⟨w1, x', stay, gx'⟩, fun z H' hz => ?_⟩
          obtain ⟨T, x2, rfl, hT, rfl, f1⟩ := hz
          have e3 := f1 _ stay
          rw [gx'] at e3; cases e3
          have k := kpx r1 gx x
          rw [Nat.zero_add]
          exact pairNew r' hT (.int _) (gx.K ▸ zx.keep k)
        · rw [z1.len, enumIt_len]; exact Nat.le_refl _
    · exact ev1.elim⟩
/-! ### {} that stays -/
theorem px_dict0 : PE X (.Dict [] [] pos) (T g E (eK (.pd (.dict [])))) :=
  PE.imp pe_dnewK fun σ H Q ⟨L, σd, S, rp, sl, ev⟩ => fun p hp => ev L _ (Ext.new1 hp) (rp.new1 hp) _ (.pd (.dct (kvs := []) (ks := []) (ds := []) (rp.free hp) (.inl upd_same) .nil .nil))
end
end DL
end
section
namespace DL
open PySem PySem.Spec PyProof.Rows L2

/-! ### t[::-1] -/
theorem adjust_rev (n : Nat) : Builtin.Slice.sliceAdjust none none (-1) (n : Int) = ((n : Int) - 1, -1) := by
  simp [Builtin.Slice.sliceAdjust]
theorem places_rev (n : Nat) : Builtin.Slice.slicePlaces ((n : Int) - 1) (-1) (-1) = n := by
  unfold Builtin.Slice.slicePlaces
  simp
  omega
theorem pick_rev (xs : Array Value) : ((List.range xs.size).filterMap fun (m : Nat) => xs[((xs.size : Int) - 1 + (m : Int) * -1).toNat]?).toArray = xs.toList.reverse.toArray := by
  congr 1
  have h1 : ((List.range xs.size).filterMap fun (m : Nat) => xs[((xs.size : Int) - 1 + (m : Int) * -1).toNat]?) = (List.range xs.size).filterMap (some ∘ fun m => xs.toList.reverse.getD m Value.none) := by
    have hc : ∀ (l : List Nat) (f g : Nat → Option Value), (∀ m ∈ l, f m = g m) → l.filterMap f = l.filterMap g := by
      intro l f g h
      induction l with
      | nil => rfl
      | cons a l ih => rw [List.filterMap_cons, List.filterMap_cons, h a List.mem_cons_self, ih fun m hm => h m (List.mem_cons_of_mem _ hm)]
    refine hc _ _ _ fun m hm => ?_
    have hm := List.mem_range.mp hm
    have e : ((xs.size : Int) - 1 + (m : Int) * -1).toNat = xs.size - 1 - m := by omega
    rw [e]
    simp [List.getD, hm]
  rw [h1, List.filterMap_eq_map]
  refine List.ext_getElem? fun i => ?_
  by_cases hi : i < xs.size
  · simp [hi]
  · simp [hi]
section
variable {prog : Program} {w : World} {A : Around} {E : Value → Shared → Prop} {s : Shared}
theorem sliceApplied_rev {sl : Addr} {vl vu vs : Value} {n : Nat} {Q : Int × Int × Nat → Shared → Prop} (hs : s.heap.IsSliceOf sl vl vu vs) (pl : IsPart vl none) (pu : IsPart vu none) (ps : IsPart vs (some (-1)))
    (h : Q ((n : Int) - 1, -1, n) s) : wpAny (model prog w) A (Builtin.Slice.sliceApplied (.ref sl) (pure (n : Int))) Q E s := by
  obtain ⟨os, hos, hcs, hds⟩ := id hs
  unfold Builtin.Slice.sliceApplied Builtin.Slice.sliceFields
  refine wpAny_bind (wpAny_bind (wpAny_field hos hds (x := vl) rfl (wpAny_bind (wpAny_field hos hds (x := vu) rfl (wpAny_bind (wpAny_field hos hds (x := vs) rfl (wpAny_pure ?_)))))))
  refine wpAny_bind (HT.slicePart_ ps ?_)
  show wpAny _ _ (if ((-1 : Int) == 0) = true then _ else _) _ _ s
  rw [if_neg (by decide)]
  refine wpAny_bind (HT.slicePart_ pl (wpAny_bind (HT.slicePart_ pu (wpAny_bind (wpAny_pure ?_)))))
  show wpAny _ _ (match Builtin.Slice.sliceAdjust none none (-1) (n : Int) with | (lo, hi) => pure (lo, (-1 : Int), Builtin.Slice.slicePlaces lo hi (-1))) _ _ s
  rw [adjust_rev]
  show wpAny _ _ (pure ((n : Int) - 1, (-1 : Int), Builtin.Slice.slicePlaces ((n : Int) - 1) (-1) (-1))) _ _ s
  rw [places_rev]
  exact wpAny_pure h
theorem getItem_tuple_rev {t sl : Addr} {items : Array Value} {vl vu vs : Value} {Q : Value → Shared → Prop} (ht : IsTup s.heap t items) (hs : s.heap.IsSliceOf sl vl vu vs) (pl : IsPart vl none) (pu : IsPart vu none) (ps : IsPart vs (some (-1)))
    (h : Q (.ref s.heap.objs.size) { s with heap := s.heap.push { cls := .type "tuple", data := .seq items.toList.reverse.toArray } })
    (hsz : items.size ≤ sizeLine) : wpAny (model prog w) A (getItem (.ref t) (.ref sl)) Q E s := by
  have htake : sizeOk (.seq items.toList.reverse.toArray) := by
    show items.toList.reverse.toArray.size ≤ sizeLine
    rw [List.size_toArray, List.length_reverse, Array.length_toList]
    exact hsz
  obtain ⟨os, hos, hcs, hds⟩ := id hs
  have hTs : s.TypeIs (.ref sl) "slice" := ⟨os, hos, hcs⟩
  unfold getItem
  try with_reducible refine wpAny_holding ?_
  first | refine wpAny_bind (wpAny_pure ?_) | skip
  refine wpAny_bind (wpAny_sequenceKey ht.typeIs (by decide) ?_)
  refine wpAny_bind (wpAny_callSpecial?_slot (name := Str.ofString "__getitem__") ht.typeIs PyProof.Rows.slot_tuple_getitem
    (wpAny_call_entry PyProof.Rows.slot_tuple_getitem ht.typeIs entry_tuple_getitem ?_ (args_tuple_getitem _ _)))
  show wpAny _ _ (Builtin.Tuple.tupleItemsOf (.ref t) >>= _) _ _ s
  refine wpAny_bind (tupleItemsOf_ ht ?_)
  refine wpAny_bind (wpAny_typeOf hTs ?_)
  rw [if_pos (by decide)]
  refine wpAny_bind (sliceApplied_rev hs pl pu ps ?_)
  have hno : ¬ ((((items.size : Int) - 1) == 0 && (-1 : Int) == 1 && items.size == items.size) = true) := by
    intro q
    rw [Bool.and_eq_true, Bool.and_eq_true] at q
    exact absurd q.1.2 (by decide)
  show wpAny _ _ (if ((((items.size : Int) - 1) == 0 && (-1 : Int) == 1 && items.size == items.size) = true) then _ else _) _ _ s
  rw [if_neg hno, pick_rev]
  first
    | exact wpAny_bind (m := Builtin.Tuple.tupleExact _) (wpAny_newObj_type (wpAny_pure ⟨_, rfl, wpAny_pure h⟩) htake)
    | exact wpAny_bind (m := Builtin.Tuple.tupleExact _) (wpAny_newObj_type (wpAny_bind (wpAny_pure (wpAny_pure ⟨_, rfl, wpAny_pure h⟩))) htake)
    | exact wpAny_bind (wpAny_bind (m := Builtin.Tuple.tupleExact _) (wpAny_newObj_type (wpAny_pure (wpAny_pure ⟨_, rfl, wpAny_pure h⟩)) htake))
    | exact wpAny_bind (wpAny_bind (m := Builtin.Tuple.tupleExact _) (wpAny_newObj_type (wpAny_pure ⟨_, rfl, wpAny_pure h⟩) htake))
end
def tRevT (K : PySem.W.Frag) (te : TE) : TE := fun σ H Q => te σ H fun x H1 => ∃ a xs, x = .ref a ∧ SqT K H1 a xs ∧ ∀ p, H1 p = none → Q (.ref p) (upd H1 p (.tup xs.reverse))
section
variable {X : Cx} {g : G} {E : WX} {ma : DM D} {a : Expr} {pos : Pos}
theorem pe_revT {e : Expr} {te : TE} {k : Nat} {p1 p2 p3 pos : Pos} (he : PE X e te) : PE X (.Subscript e (.Slice none none (some (.UnaryOp .USub (.Constant (.int 1) k p1) p2)) p3) pos) (tRevT X.K te) := by
  refine ⟨fun pins s σ H Q I h => ?_⟩
  refine Subscript_ (thn (he.run pins s σ H _ I h) fun v s1 ⟨x, H1, I1, r1, q1⟩ => ?_)
  obtain ⟨a, xs, ex, hx, q⟩ := q1
  subst ex
  cases r1
  have hst : PO X (some (.UnaryOp .USub (.Constant (.int 1) k p1) p2)) (tPart (tUn (rU fun i => .int (-i)) (tC (.int 1)))) := po_some (pe_un un_neg pe_int)
  refine wpAny_Slice (thn (po_none.run pins s1 σ H1 (fun o H2 => o = none ∧ H2 = H1) I1 ⟨rfl, rfl⟩) fun vl s2 ⟨l, H2, I2, pl, el, e2⟩ => ?_)
  subst el e2
  refine thn (po_none.run pins s2 σ H2 (fun o H3 => o = none ∧ H3 = H2) I2 ⟨rfl, rfl⟩) fun vu s3 ⟨u, H3, I3, pu, eu, e3⟩ => ?_
  subst eu e3
  refine thn (hst.run pins s3 σ H3 (fun o H4 => o = some (-1) ∧ H4 = H3) I3 ⟨1, rfl, -1, rfl, rfl, rfl⟩) fun vs s4 ⟨o, H4, I4, ps, eo, e4⟩ => ?_
  subst eo e4
  have I5 : Inv X pins σ H4 { s4 with heap := s4.heap.push { cls := .type "slice", data := .fields #[vl, vu, vs] } } := I4.kept (t' := s4.toks) fun b ob q => Heap.get?_push_of_some _ q
  obtain ⟨its, r, ht, hz⟩ := I5.tuple hx
  have hlen := r.length
  show wpAny (model X.prog X.w) X.A (subscriptTail e (.Slice none none (some (.UnaryOp .USub (.Constant (.int 1) k p1) p2)) p3) (.ref a) (.ref s4.heap.objs.size)) (EP X pins σ Q) X.xe { s4 with heap := s4.heap.push { cls := .type "slice", data := .fields #[vl, vu, vs] } }
  refine tail_any (ops := [.ref a, .ref s4.heap.objs.size]) ht.typeIs (PyProof.Rows.slot_tuple_getitem.lookup) ?_ (by with_unfolding_all rfl)
  refine getItem_tuple_rev ht (Heap.IsSliceOf.new _ vl vu vs) pl pu ps ?_ (by rw [List.size_toArray]; omega)
  refine ⟨.ref _, _, I5.laid (t' := s4.toks) (o := .tup xs.reverse) (fun b ob q => Heap.get?_push_of_some _ q) (Nat.le_refl _) ?_, rfl, q _ (I5.hok.fresh (Nat.le_refl _))⟩
  exact ⟨by rw [List.length_reverse]; exact hz, _, r.reverse, IsTup.new _ _⟩
def eRevT (m : DM D) : DM D := mBind m fun d => fun _ S => match d with
  | .pd (.tuple xs) => .ok (.tup xs.reverse) S
  | _ => .stuck
theorem px_revT (hK : X.K = g.K) {k : Nat} {p1 p2 p3 : Pos} (ha : PE X a (T g E ma)) : PE X (.Subscript a (.Slice none none (some (.UnaryOp .USub (.Constant (.int 1) k p1) p2)) p3) pos) (T g E (eRevT ma)) :=
  PE.imp (pe_revT ha) fun σ H Q ⟨L, σd, S, rp, sl, ev⟩ => ⟨L, σd, S, rp, sl, ev.step fun d S' L' H' x r' ev' v dn => by
    split at ev'
    · obtain ⟨a, vs, rfl, rd, dz⟩ := den_tup dn
      rw [hK]
      exact ⟨a, vs, rfl, rd, fin_tup r' ev' dz.rev⟩
    · exact ev'.elim⟩
/-! ### t == (), t != () -/
def opEqT (ne : Bool) : D → D → Sto → Out D := fun x y S => match x, y with
  | .pd (.tuple xs), .pd (.tuple []) => .ok (.bl (xs.isEmpty ^^ ne)) S
  | x, y => opEq ne x y S
theorem ox_eqT (hk : X.K = g.K) (hu : X.A.units + 64 < cLine) : OpX X g (compareOp .Eq) (opEqT false) := by
  intro E pins s σ H x y v u Q I rx ry h
  obtain ⟨L, S, dx, dy, r, nx, ny, ev⟩ := h
  unfold opEqT at ev
  split at ev
  · rename_i xs
    obtain ⟨a, vs, rfl, rd, dz⟩ := den_tup nx
    obtain ⟨b, ws, rfl, rd2, dz2⟩ := den_tup ny
    cases dz2
    rw [← hk] at rd rd2
    cases rx
    cases ry
    obtain ⟨its, r1, p1, _⟩ := I.tuple rd
    obtain ⟨its2, r2, p2, _⟩ := I.tuple rd2
    cases r2
    refine PySem.SeqAt.eq_tupleAt (e := fun _ => true) p1 p2 (by omega) (fun j h1 h2 => absurd h2 (by simp)) ?_
    have hlen := r1.length
    have e1 : ((List.range (min its.toArray.size ([] : List Value).toArray.size)).all (fun _ => true) && its.toArray.size == ([] : List Value).toArray.size) = xs.isEmpty := by
      have h3 := dz.len
      cases xs with
      | nil =>
        have : its = [] := List.length_eq_zero_iff.mp (by rw [← hlen, h3]; rfl)
        subst this
        rfl
      | cons z zs =>
        cases its with
        | nil => rw [h3] at hlen; cases hlen
        | cons _ _ => rfl
    rw [e1]
    exact ⟨.bl _, H, I, rfl, fin_val r ev (by rw [Bool.xor_false]; exact .pd (.bl _))⟩
  · exact ox_eq hk hu E pins s σ H x y v u Q I rx ry ⟨L, S, _, _, r, nx, ny, ev⟩
end
end DL
namespace DL
open PySem PySem.Spec PyProof.Rows L2
theorem FnG.zero {P : Program} {w : World} {K : PySem.W.Frag} {mg : Str → Option Value} {base : Heap} {k : Nat} {f : Addr} {fd : FuncData} {ps : List Str} {n : Nat} (hn : ps.length = n := by rfl) : FnG P w K mg base k f fd ps (spM K mg n (fun _ _ => .stuck)) :=
  ⟨fun vs H Q E h => h.1.trans hn.symm, fun A outer s H args us vs Q E hr e0 hb r hsp => by
    obtain ⟨_, W, as, ds, S, _, _, ev⟩ := hsp
    exact ev.elim⟩
end DL
end
section
namespace DL
open PySem PySem.Spec PyProof.Rows L2
/-! ### max of a tuple of whole numbers -/
theorem leastmost_fold (n : Int) : ∀ ns : List Int, ns.foldl max n = mostI (n :: ns) := by
  intro ns
  induction ns generalizing n with
  | nil => rfl
  | cons k r ih =>
    rw [List.foldl_cons, ih]
    show mostI (max n k :: r) = max n (mostI (k :: r))
    cases r with
    | nil => rfl
    | cons a t =>
      show max (max n k) (mostI (a :: t)) = max n (max k (mostI (a :: t)))
      exact Int.max_assoc n k _
theorem alike_ints2 (ns : List Int) : PySem.W.AlikeAll (ns.map .int) := by
  refine ⟨fun x hx y hy => ?_, fun x hx => ?_⟩
  · obtain ⟨a, _, rfl⟩ := List.mem_map.mp hx
    obtain ⟨b, _, rfl⟩ := List.mem_map.mp hy
    rfl
  · obtain ⟨a, _, rfl⟩ := List.mem_map.mp hx
    simp
def fMax1Q : LF := fun ds S => match ds with
  | [.pd (.tuple xs)] => (match intsL xs with
    | some (n :: ns) => .ok (.int (mostI (n :: ns))) S
    | _ => .stuck)
  | ds => fMax1 ds S
section
variable {X : Cx} {g : G} {L : List Addr} {H : Hp} {S : Sto}
theorem dz_ints_dp {K : PySem.W.Frag} {W : Addr → Prop} : ∀ {ns : List Int} {vs : List V}, DzAll K W H vs (ns.map .int) → DpAll K H vs (ns.map .int)
  | [], _, .nil => .nil
  | _ :: _, _, .cons (.int _) h => .cons (.int _) (dz_ints_dp h)
theorem cx_max1Q (hk : X.K = g.K) (hc : X.calm = true) (hu : X.A.units + 64 < cLine) : CallX X g (.builtin "max") fMax1Q := by
  intro E pins s σ H xs us Q I r h
  obtain ⟨L, S, ds, rp, dn, ev⟩ := h
  unfold fMax1Q at ev
  split at ev
  · rename_i xs
    split at ev
    · rename_i n ns en
      cases dn with
      | cons d1 d2 =>
        cases d2
        obtain ⟨a, vs, rfl, rd, dz⟩ := den_tup d1
        rw [intsL_eq en] at dz
        rw [← hk] at rd
        obtain ⟨its, rv, pl, _⟩ := I.tuple rd
        have dp := dz_ints_dp dz
        rw [← hk] at dp
        obtain ⟨as, ra⟩ := Dp.readsAll I _ _ _ dp rv
        rw [Vals.ref1 r]
        refine PySem.W.max_tuple_data (x := .int n) (xs := ns.map .int) (I.ok.hd hc) (show s.heap.IsTuple a its.toArray from pl) ra (alike_ints2 (n :: ns)) ?_ fun i v h' tk bs hi hr hkp => ?_
        · have := PySem.W.depth_ints (n :: ns)
          rw [List.map_cons] at this
          rw [this]
          omega
        · rw [PySem.W.maxD_ints, leastmost_fold] at hr
          cases hr
          exact ⟨.int _, H, I.kept hkp, ⟨_, rfl⟩, fin_val rp ev (.pd (.int _))⟩
    · exact ev.elim
  · exact cx_max1 hc E pins s σ H _ us Q I r ⟨L, S, ds, rp, dn, ev⟩
end
/-! ### what is handed back stands by itself, lists in lists too -/
mutual
def frzD (k : Nat) (S : Sto) : Nat → D → Option PyData
  | _, .pd x => some x
  | 0, _ => none
  | f + 1, .ref n => if k ≤ n then (match S[n]? with
    | some (.lst xs) => (frzL k S f xs).map .list
    | _ => none) else none
  | _, .glob _ => none
  | _, .xt _ => none
  | _, .raw _ => none
def frzL (k : Nat) (S : Sto) : Nat → List D → Option (List PyData)
  | _, [] => some []
  | f, x :: r => match frzD k S f x, frzL k S f r with
    | some a, some b => some (a :: b)
    | _, _ => none
end
def finD (k : Nat) (d : D) (S : Sto) : Out D := match frzD k S 3 d with
  | some x => if (S.take k).all pdOb = true then .ok (.pd x) (S.take k) else .stuck
  | none => .stuck
def runFD (n : Nat) (m : DM Fl) : DF := fun ds S => match m (startD n ds) S with
  | .ok (.ret d) S' => finD S.length d S'
  | .ok (.next _) S' => finD S.length .non S'
  | .ok _ _ => .stuck
  | .exc e _ S' => if (S'.take S.length).all pdOb = true ∧ (e.fs.all fun p => noRef p.2) = true then .exc e [] (S'.take S.length) else .stuck
  | .stuck => .stuck
section
variable {g : G} {E : WX} {L : List Addr} {H : Hp} {S : Sto} {as : List Addr}
theorem ref_new {n : Nat} {a : Addr} (hg : g.as = as) (r : RepS g L S H) (hk : as.length ≤ n) (hn : L[n]? = some a) : ¬ g.wr as a := by
  have hna : a ∉ g.as := by
    intro hm
    obtain ⟨j, hj, ej⟩ := List.mem_iff_getElem.mp hm
    obtain ⟨t, ht⟩ := r.pre
    have e1 : L[j]? = some a := by rw [← ht, List.getElem?_append_left hj, List.getElem?_eq_getElem hj, ej]
    have e2 := List.getElem?_eq_some_iff.mp e1
    have e3 := List.getElem?_eq_some_iff.mp hn
    have := (List.getElem_inj r.nd).mp (e2.2.trans e3.2.symm)
    rw [hg] at hj
    omega
  exact fun w => w.elim (r.own a (List.mem_of_getElem? hn) hna) fun z => hna (by rw [hg]; exact z)
theorem frzD_ok (hg : g.as = as) (r : RepS g L S H) : ∀ (f : Nat) {d : D} {v : V} {x : PyData}, Den g L H d v → frzD as.length S f d = some x → Dz g.K (g.wr as) H v x := by
  have sub : ∀ {d : PyData} {v : V}, Dz g.K (g.wr L) H v d → Dz g.K (g.wr as) H v d := fun h => h.anti fun b w => w.imp id fun z => mem_pre r.pre (by rw [hg]; exact z)
  intro f
  induction f with
  | zero =>
    intro d v x dn e
    cases d with
    | pd y =>
      cases dn with
      | pd h => unfold frzD at e; cases e; exact sub h
    | ref n => unfold frzD at e; cases e
    | glob y => unfold frzD at e; cases e
    | xt y => unfold frzD at e; cases e
    | raw y => unfold frzD at e; cases e
  | succ f ih =>
    intro d v x dn e
    cases d with
    | pd y =>
      cases dn with
      | pd h => unfold frzD at e; cases e; exact sub h
    | glob y => unfold frzD at e; cases e
    | xt y => unfold frzD at e; cases e
    | raw y => unfold frzD at e; cases e
    | ref n =>
      unfold frzD at e
      cases dn with
      | @ref _ a hn =>
        split at e
        · rename_i hk
          split at e
          · rename_i xs hs
            cases q : frzL as.length S f xs with
            | none => rw [q] at e; cases e
            | some ys =>
              rw [q] at e
              cases e
              obtain ⟨a', ha, od⟩ := r.ob hs
              rw [hn] at ha
              cases ha
              cases od with
              | @lst _ vs q2 ds =>
                have all : ∀ {xs : List D} {vs : List V} {ys : List PyData}, Dens g L H xs vs → frzL as.length S f xs = some ys → DzAll g.K (g.wr as) H vs ys := by
                  intro xs vs ys hd
                  induction hd generalizing ys with
                  | nil => intro e; unfold frzL at e; cases e; exact .nil
                  | cons h1 _ ih2 =>
                    intro e
                    unfold frzL at e
                    split at e
                    · rename_i a b ea eb
                      cases e
                      exact .cons (ih h1 ea) (ih2 eb)
                    · cases e
                exact .lst (ref_new hg r hk hn) (.inl q2) (all ds q)
          · cases e
        · cases e
end
theorem Fun.dlD {P : Program} {w : World} {K : PySem.W.Frag} {mg : Str → Option Value} {base : Heap} {x qual : Str} {st : Stmt} {f : Addr} {fd : FuncData} {N ps : List Str} {k : Nat} {m : DM Fl} (F : Fun K x qual st f fd) (Sc : FnScope N ps (defScope st))
    (hb : ∀ (cdv : Value) (A : Around) (outer : List Env) (s : Shared) (H : Hp) (E : XK) (W : Addr → Prop) (as : List Addr), RoomG k (A.deeper (envOfC qual (defScope st) s.heap.objs.size f cdv)) →
      PSs (cxOf (L2.CX P w) P w K mg base N qual (defScope st) f cdv A outer s H E) (defBody st) (TSt ⟨K, mg, W, H, as⟩ (fun c d _ H => E c d H) m)) :
    FnG P w K mg base (k + 1) f fd ps (spM K mg ps.length (runFD N.length m)) := by
  refine Fun.okG F Sc (fun vs H Q E h => h.1) (fun cdv A outer s H vs Q E hr h => ?_)
  obtain ⟨hl, W, as, ds, S, rp, dn, ev⟩ := h
  refine ⟨_, hb cdv A outer s H E W as hr, as, startD N.length ds, S, rp, startD_sl dn, ?_⟩
  have hS : S.length = as.length := Paired.len rp.obs
  unfold runFD at ev
  cases em : m (startD N.length ds) S with
  | ok fl S' =>
    rw [em] at ev
    have done : ∀ d, Ev ⟨K, mg, W, H, as⟩ (fun c x _ H' => E c x H') as H (finD S.length d S') (PV ⟨K, mg, W, H, as⟩ Q) →
        ∀ L' H', Ext ⟨K, mg, W, H, as⟩ as H L' H' → RepS ⟨K, mg, W, H, as⟩ L' S' H' → ∀ v, Den ⟨K, mg, W, H, as⟩ L' H' d v → Q v H' := by
      intro d ev L' H' x r v dn'
      unfold finD at ev
      split at ev
      · rename_i d' ed
        split at ev
        · rename_i hp
          rw [hS] at ev ed hp
          exact ev as H' x.trim (r.trim hp) v (.pd (frzD_ok rfl r 3 dn' ed))
        · exact ev.elim
      · exact ev.elim
    cases fl with
    | ret d => exact fun L' H' x r v dn' => done d ev L' H' x r v dn'
    | next σ => exact fun L' H' x r σ _ => done .non ev L' H' x r .non (.pd .non)
    | brk σ => exact ev.elim
    | cont σ => exact ev.elim
  | exc e σ S' =>
    rw [em] at ev
    dsimp only at ev
    split at ev
    · rename_i hp
      rw [hS] at ev hp
      intro L' H' c x σ y r sl ex
      exact ev as H' c x [] y.trim (r.trim hp.1) (fun i d z => by simp at z) (ex.move rfl rfl (fun b w => w.imp id fun z => mem_pre r.pre z) hp.2)
    · exact ev.elim
  | stuck => rw [em] at ev; exact ev.elim
section
variable {g : G} {E : WX} {X : Cx} {a : Expr} {ma : DM D}
theorem px_tupRg1K (hc : X.calm = true) (hg : Gl X "tuple") (hm : X.mg "tuple" = none) (hg2 : Gl X "range") (hm2 : X.mg "range" = none) (ha : PE X a (T g E ma)) {p pos p2 pos2 : Pos} (na : starEach [a] X.env = (false, eval a X.env) :: starEach [] X.env)
    (nb : starEach [.Call (.Name "range" p2) [a] [] pos2] X.env = (false, eval (.Call (.Name "range" p2) [a] [] pos2) X.env) :: starEach [] X.env) :
    PE X (.Call (.Name "tuple" p) [.Call (.Name "range" p2) [a] [] pos2] [] pos) (T g E (eRg1 true ma)) :=
  px_tupRg1 hc hg hm hg2 hm2 ha na nb
end
end DL
end
section
namespace DL
open PySem PySem.Spec PyProof.Rows L2
/-! ### a tuple of which it is known that it has no dict (D.xt): tuple(list); its count -/
def wk : D → D := fun d => match d with
  | .xt ds => .tup ds
  | d => d
section
variable {g : G} {E : WX} {L : List Addr} {H : Hp} {S : Sto} {σd : Sl} {σ : L2.St} {v : V} {d : D} {X : Cx} {pos : Pos}
theorem Den.wk (h : Den g L H d v) : Den g L H (wk d) v := by
  cases h with
  | xt e hd z => exact .pd (.tup (.inl (.inr ⟨_, e⟩)) z)
  | pd h => exact .pd h
  | ref h => exact .ref h
  | glob h => exact .glob h
  | raw => exact .raw
def eVarW (i : Nat) : DM D := fun σ S => match σ[i]? with
  | some (some d) => .ok (DL.wk d) S
  | _ => .stuck
theorem pd_varW (i : Nat) {x : Str} (hN : X.N[i]? = some x := by rfl) (hv : Vis X.env.scope x := by first | exact Or.inl rfl | exact Or.inr (Or.inl rfl) | exact Or.inr (Or.inr rfl)) (hd : (x == ("__debug__" : Str)) = false := by decide)
    (hcd : (x == ("__classdict__" : Str)) = false := by decide) : PE X (.Name x pos) (T g E (eVarW i)) :=
  PE.imp (pe_var hN hv hd hcd) fun σ H Q ⟨L, σd, S, r, sl, ev⟩ => by
    unfold eVarW at ev
    split at ev
    · rename_i d e
      obtain ⟨v, e', dn⟩ := sl i d e
      exact ⟨v, e', ev.ok r v dn.wk⟩
    · exact ev.elim
theorem fin_xt {Q : VK} {ds : List PyData} {vs : List V} {o : Obj} (ho : o.dict = none) (r : RepS g L S H) (ev : Ev g E L H (.ok (.xt ds) S) (PV g Q)) (z : DzAll g.K (g.wr L) H vs ds) {p : Addr} (n : H p = none) : Q (.ref p) (upd H p (.frz o (.tup vs))) :=
  ev L _ (Ext.new1 n) (r.new1 n) _ (.xt upd_same ho (z.new r n))
def fTupleX : LF := fun ds S => match ds with
  | [d] => match asL S d with
    | some ys => match pdL ys with
      | some zs => .ok (.xt zs) S
      | none => .stuck
    | none => .stuck
  | _ => .stuck
theorem cx_tupleX : CallX X g (.type "tuple") fTupleX := by
  intro E pins s σ H xs us Q I r h
  obtain ⟨L, S, ds, rp, dn, ev⟩ := h
  unfold fTupleX at ev
  split at ev
  · cases dn with
    | cons d1 d2 =>
      cases d2
      split at ev
      · rename_i ys ey
        split at ev
        · rename_i zs ez
          obtain ⟨a, vs, rfl, rd, dz⟩ := asL_ok rp d1 ey
          have z := dens_dz (pdL_eq ez ▸ dz)
          rw [Vals.ref1 r]
          obtain ⟨its, rv, pl, hz⟩ := I.list (.inl rd)
          have hn := rv.length
          refine call_tuple_list pl.isList (fun h1 kp => ?_) (by rw [List.size_toArray]; omega)
          have J : Inv X pins σ H ⟨h1, s.gens, s.drawn, s.toks, s.os⟩ := I.kept (t' := s.toks) kp
          have fr := J.hok.fresh (Nat.le_refl _)
          have J2 := J.laid (o := .frz { cls := .type "tuple", data := .seq its.toArray } (.tup vs)) (t' := s.toks) (fun b o e => Heap.get?_push_of_some { cls := .type "tuple", data := .seq its.toArray } e) (Nat.le_refl _) ⟨Heap.get?_push_size _ rfl, hz, its, rv, IsTup.new _ _⟩
          exact ⟨.ref h1.objs.size, _, J2, rfl, fin_xt rfl rp ev z fr⟩
        · exact ev.elim
      · exact ev.elim
  · exact ev.elim
def tyX (x : V) (H : Hp) : Prop := ∃ a o vs, x = .ref a ∧ H a = some (.frz o (.tup vs)) ∧ o.dict = none
theorem ty_tupX : TyOk X "tuple" tyX := by
  intro pins σ H s x v I r ty
  obtain ⟨a, o, vs, rfl, e, hd⟩ := ty
  cases r
  obtain ⟨ho, hz, its, rv, it⟩ := I.hok a _ e
  refine ⟨it.typeIs, fun b eb => ?_⟩
  cases eb
  exact ⟨o, ho, hd⟩
def rCnt (K : PySem.W.Frag) (x : V) (xs : List V) (H : Hp) (Q : VK) : Prop := ∃ (a : Addr) (vs : List V) (ns : List Int) (i : Int), x = .ref a ∧ SqT K H a vs ∧ xs = [.int i] ∧ DpAll K H vs (ns.map .int) ∧ Q (.int (ns.count i : Nat)) H
theorem plain_ints : ∀ ns : List Int, PyData.plainAll (ns.map .int) = true
  | [] => rfl
  | n :: ns => by rw [List.map_cons, PyData.plainAll, plain_ints ns]; rfl
theorem count_ints (i : Int) : ∀ ns : List Int, ((ns.map PyData.int).countP fun y => PyData.eqv y (.int i)) = ns.count i
  | [] => rfl
  | n :: ns => by
    rw [List.map_cons, List.countP_cons, List.count_cons, count_ints i ns]
    rfl
theorem mt_cntX (hu : X.A.units + 64 < cLine) : MtR X "tuple.count" (rCnt X.K) := by
  intro pins s σ H x xs v us Q I rx rxs h
  obtain ⟨a, vs, ns, i, rfl, hs, rfl, z, q⟩ := h
  cases rx
  obtain ⟨its, rv, pl, _⟩ := I.tuple hs
  obtain ⟨as, ra⟩ := Dp.readsAll I _ _ _ z rv
  obtain ⟨u, rfl, ru⟩ := vals1 rxs
  obtain ⟨bs, rb⟩ := Dp.reads I _ _ u (.int i) ru
  have hu' : X.A.units + 1 + min (PyData.depthAll (ns.map .int)) (PyData.int i).depth < cLine := by
    rw [PySem.W.depth_ints]; omega
  refine SeqAt.count_tuple_data pl ra rb (plain_ints ns) rfl hu' ?_
  rw [count_ints i ns]
  exact ⟨.int _, H, I.kept (t' := s.toks + 1) (h' := s.heap) fun _ _ e => e, ⟨_, rfl⟩, q⟩
def opCnt (ds : List PyData) : List D → Sto → Out D := fun es S => match es with
  | [.pd (.int i)] => match intsL ds with
    | some ns => .ok (.int (ns.count i : Nat)) S
    | none => .stuck
  | _ => .stuck
def eCntX (mo : DM D) (ml : DM (List D)) : DM D := mBind mo fun d => fun σ S => match d with
  | .xt ds => mBind ml (fun es => fun _ S => opCnt ds es S) σ S
  | _ => .stuck
variable {o e : Expr} {es : List Expr} {mo : DM D} {ml : DM (List D)} {apos cpos : Pos}
theorem px_cntX (hk : X.K = g.K) (hu : X.A.units + 64 < cLine) (ho : PE X o (T g E mo)) (ha : PA X (e :: es) (TL g E ml))
    (hbase : attributeBase o "count" X.env (eval o X.env) = eval o X.env := by rfl)
    (hfew : ((backTo cpos (starEach (e :: es) X.env)).all (fun x => !x.1) && (backToKw cpos (keywordEach [] X.env)).all (fun x => x.1.isSome)
      && decide ((e :: es).length + ([] : List Keyword).length + (if ([] : List Keyword).isEmpty then 0 else 1) < 30)) = true := by rfl)
    (hline : (apos.endLine == cpos.line) = true := by rfl) (hs : starEach (e :: es) X.env = (false, eval e X.env) :: starEach es X.env := by rfl) (hplain : (backTo cpos (starEach es X.env)).any (·.1) = false := by rfl) :
    PE X (.Call (.Attribute o "count" apos) (e :: es) [] cpos) (T g E (eCntX mo ml)) :=
  PE.imp (pe_mG ty_tupX PySem.F.plainAttrs_tuple PySem.F.slot_tuple_count PySem.F.type_tuple_count (mt_cntX hu) ho ha hbase hfew hline hs hplain) fun σ H Q ⟨L, σd, S, rp, sl, ev⟩ => ⟨L, σd, S, rp, sl, ev.step fun d S1 L1 H1 x1 r1 ev1 v dn => by
    split at ev1
    · rename_i ds
      cases dn with
      | @xt _ a vs ob ea hd z =>
        refine ⟨⟨a, ob, vs, rfl, ea, hd⟩, L1, σd, S1, r1, sl.ext rp x1, ev1.step fun es S2 L2 H2 x2 r2 ev2 ws dns => ?_⟩
        have dn2 : Den g L2 H2 (.xt ds) (.ref a) := Den.ext r1 x2 (.xt ea hd z)
        unfold opCnt at ev2
        split at ev2
        · rename_i i
          split at ev2
          · rename_i ns en
            cases dns with
            | cons d1 d2 =>
              cases d2
              cases den_int d1
              cases dn2 with
              | @xt _ _ vs2 ob2 ea2 hd2 z2 =>
                rw [intsL_eq en] at z2
                have z3 := dz_ints_dp z2
                rw [← hk] at z3
                exact ⟨a, vs2, ns, i, rfl, .inl (.inr ⟨ob2, ea2⟩), rfl, z3, fin_val r2 ev2 (.pd (.int _))⟩
          · exact ev2.elim
        · exact ev2.elim
    · exact ev1.elim⟩
end
end DL
end
section
namespace DL
open PySem PySem.Spec PyProof.Rows L2
section
variable {g : G} {E : WX} {L : List Addr} {H : Hp} {S : Sto} {X : Cx} {pos : Pos} {u : TgsD}
/-! ### a, b = a list -/
def gLst (K : PySem.W.Frag) (n : Nat) (t : TGs) : TG := fun v σ H Q => ∃ a xs, v = .ref a ∧ SqL K H a xs ∧ xs.length = n ∧ t xs σ H Q
theorem pg_lst {es : List Expr} {k n : Nat} {t : TGs} (hc : X.calm = true) (h : PGs X es t) (hn : (assignEach es X.env).length = n := by rfl) (hst : (assignEach es X.env).findIdx? (·.1) = none := by rfl) : PG X (.Tuple es k pos) (gLst X.K n t) := by
  refine ⟨fun pins s σ H v u Q I r hw => ?_⟩
  obtain ⟨a, xs, e1, hq, hl, hw⟩ := hw
  subst e1
  cases r
  obtain ⟨its, rv, pl, _⟩ := I.list hq
  have hz : n = its.toArray.size := by rw [← hl, List.size_toArray]; exact rv.length
  rw [PyProof.Rows.assign_Tuple]
  refine wpAny_bind (wpAny_standAt ?_)
  unfold unpack
  rw [hn, hst, hz]
  refine wpAny_bind (wpAny_holding (PySem.W.kun_itemsOf (I.ok.hd hc) pl.isList fun h1 hx => ?_))
  have J : Inv X pins σ H ⟨h1, s.gens, s.drawn, s.toks, s.os⟩ := I.kept (t' := s.toks) fun b o e => hx b o (Nat.ne_of_lt (Heap.lt_size e)) e
  exact h.run pins _ σ H xs _ Q J rv hw
def tgLst (t : TgsD) : TgD := fun d σ => match d with
  | .pd (.list ds) => t (ds.map .pd) σ
  | _ => none
theorem GT.lst {es : List Expr} {k n : Nat} (hK : X.K = g.K) (hc : X.calm = true) (h : PGs X es (GTs g u)) (hn : (assignEach es X.env).length = n := by rfl) (hst : (assignEach es X.env).findIdx? (·.1) = none := by rfl)
    (hu : ∀ ds σd σd', u ds σd = some σd' → ds.length = n) : PG X (.Tuple es k pos) (GT g (tgLst u)) :=
  PG.imp (pg_lst hc h hn hst) fun v σ H Q ⟨L, σd, S, d, σd', rp, sl, dn, e, q⟩ => by
    unfold tgLst at e
    split at e
    · rename_i ds
      obtain ⟨a, vs, rfl, rd, dz⟩ := den_lst dn
      refine ⟨a, vs, rfl, .inl rd, ?_, L, σd, S, _, σd', rp, sl, dz.dens, e, q⟩
      rw [dz.len, ← hu _ _ _ e, List.length_map]
    · cases e
/-! ### sum of a tuple -/
def fSum1Q : LF := fun ds S => match ds with
  | [.pd (.tuple xs)] => (match intsL xs with
    | some ns => .ok (.int ns.sum) S
    | none => .stuck)
  | ds => fSum1 ds S
theorem dz_ints_v {K : PySem.W.Frag} {W : Addr → Prop} : ∀ {ns : List Int} {vs : List V}, DzAll K W H vs (ns.map .int) → vs = ns.map V.int
  | [], _, .nil => rfl
  | _ :: _, _, .cons (.int _) h => by rw [List.map_cons, dz_ints_v h]
theorem cx_sum1Q (hk : X.K = g.K) (hc : X.calm = true) : CallX X g (.builtin "sum") fSum1Q := by
  intro E pins s σ H xs us Q I r h
  obtain ⟨L, S, ds, rp, dn, ev⟩ := h
  unfold fSum1Q at ev
  split at ev
  · rename_i xs
    split at ev
    · rename_i ns en
      cases dn with
      | cons d1 d2 =>
        cases d2
        obtain ⟨a, vs, rfl, rd, dz⟩ := den_tup d1
        rw [intsL_eq en] at dz
        rw [← hk] at rd
        obtain ⟨its, rv, pl, _⟩ := I.tuple rd
        rw [dz_ints_v dz] at rv
        have hi := rv.ints
        obtain ⟨zs, hz⟩ := hi.allInts.items
        have hn : numsOf its.toArray.toList = ns := by rw [show its.toArray.toList = its from rfl, hi.numsOf]
        have pl2 : s.heap.IsTuple a its.toArray := pl
        rw [hz] at pl2 hn
        rw [nums_intItems] at hn
        rw [Vals.ref1 r]
        refine PySem.W.ktm_sumG (I.ok.hd hc) pl2 fun h1 tk t1 hkp => ?_
        rw [preSum_eq, List.take_of_length_le (by simp), hn]
        exact ⟨.int _, H, I.kept hkp, ⟨_, rfl⟩, fin_val rp ev (.pd (.int _))⟩
    · exact ev.elim
  · exact cx_sum1 hc E pins s σ H _ us Q I r ⟨L, S, ds, rp, dn, ev⟩
/-! ### min, max of a tuple with default -/
def fMinDf : List D → List D → Sto → Out D := fun ds ks S => match ds with
  | [.pd (.tuple xs)] => (match ks with
    | [.pd (.int k)] => (match intsL xs with
      | some [] => .ok (.int k) S
      | some (n :: ns) => .ok (.int (ns.foldl min n)) S
      | none => .stuck)
    | _ => .stuck)
  | _ => .stuck
def fMaxDf : List D → List D → Sto → Out D := fun ds ks S => match ds with
  | [.pd (.tuple xs)] => (match ks with
    | [.pd (.int k)] => (match intsL xs with
      | some [] => .ok (.int k) S
      | some (n :: ns) => .ok (.int (ns.foldl max n)) S
      | none => .stuck)
    | _ => .stuck)
  | _ => .stuck
def CallKX (X : Cx) (g : G) (id : String) (ks : List Str) (f : List D → List D → Sto → Out D) : Prop :=
  ∀ E : WX, CallRK X (.builtin id) ks fun xs zs H Q => ∃ L S ds es, RepS g L S H ∧ Dens g L H ds xs ∧ Dens g L H es zs ∧ Ev g E L H (f ds es S) (PV g Q)
theorem cx_minDf (hk : X.K = g.K) (hc : X.calm = true) (hu : X.A.units + 64 < cLine) : CallKX X g "min" ["default"] fMinDf := by
  intro E pins s σ H xs zs us ws Q I r rz h
  obtain ⟨L, S, ds, es, rp, dn, de, ev⟩ := h
  unfold fMinDf at ev
  split at ev
  · rename_i xs
    split at ev
    · rename_i k
      cases dn with
      | cons d1 d2 =>
        cases d2
        cases de with
        | cons e1 e2 =>
          cases e2
          cases den_int e1
          obtain ⟨a, vs, rfl, rd, dz⟩ := den_tup d1
          obtain ⟨w1, rfl, rw1⟩ := vals1 rz
          rw [Vals.ref1 r]
          rw [← hk] at rd
          obtain ⟨its, rv, pl, _⟩ := I.tuple rd
          have pl2 : s.heap.IsTuple a its.toArray := pl
          cases en : intsL xs with
          | none => rw [en] at ev; exact ev.elim
          | some ns =>
            rw [intsL_eq en] at dz
            have dp := dz_ints_dp dz
            rw [← hk] at dp
            obtain ⟨as, ra⟩ := Dp.readsAll I _ _ _ dp rv
            rw [en] at ev
            refine PySem.W.min_tuple_default (I.ok.hd hc) pl2 ra (alike_ints2 ns) (by rw [PySem.W.depth_ints]; omega) (fun e h1 tk hkp => ?_) fun y ys i v h1 tk bs e hi hr hkp => ?_
            · cases ns with
              | nil => exact ⟨.int k, H, I.kept hkp, rw1, fin_val rp ev (.pd (.int _))⟩
              | cons n ns => cases e
            · cases ns with
              | nil => cases e
              | cons n ns =>
                cases e
                rw [PySem.W.minD_ints] at hr
                cases hr
                exact ⟨.int _, H, I.kept hkp, ⟨_, rfl⟩, fin_val rp ev (.pd (.int _))⟩
    · exact ev.elim
  · exact ev.elim
theorem cx_maxDf (hk : X.K = g.K) (hc : X.calm = true) (hu : X.A.units + 64 < cLine) : CallKX X g "max" ["default"] fMaxDf := by
  intro E pins s σ H xs zs us ws Q I r rz h
  obtain ⟨L, S, ds, es, rp, dn, de, ev⟩ := h
  unfold fMaxDf at ev
  split at ev
  · rename_i xs
    split at ev
    · rename_i k
      cases dn with
      | cons d1 d2 =>
        cases d2
        cases de with
        | cons e1 e2 =>
          cases e2
          cases den_int e1
          obtain ⟨a, vs, rfl, rd, dz⟩ := den_tup d1
          obtain ⟨w1, rfl, rw1⟩ := vals1 rz
          rw [Vals.ref1 r]
          rw [← hk] at rd
          obtain ⟨its, rv, pl, _⟩ := I.tuple rd
          have pl2 : s.heap.IsTuple a its.toArray := pl
          cases en : intsL xs with
          | none => rw [en] at ev; exact ev.elim
          | some ns =>
            rw [intsL_eq en] at dz
            have dp := dz_ints_dp dz
            rw [← hk] at dp
            obtain ⟨as, ra⟩ := Dp.readsAll I _ _ _ dp rv
            rw [en] at ev
            refine PySem.W.max_tuple_default (I.ok.hd hc) pl2 ra (alike_ints2 ns) (by rw [PySem.W.depth_ints]; omega) (fun e h1 tk hkp => ?_) fun y ys i v h1 tk bs e hi hr hkp => ?_
            · cases ns with
              | nil => exact ⟨.int k, H, I.kept hkp, rw1, fin_val rp ev (.pd (.int _))⟩
              | cons n ns => cases e
            · cases ns with
              | nil => cases e
              | cons n ns =>
                cases e
                rw [PySem.W.maxD_ints] at hr
                cases hr
                exact ⟨.int _, H, I.kept hkp, ⟨_, rfl⟩, fin_val rp ev (.pd (.int _))⟩
    · exact ev.elim
  · exact ev.elim
def eCallK (f : List D → List D → Sto → Out D) (ml mk : DM (List D)) : DM D := mBind ml fun ds => mBind mk fun ks => fun _ S => f ds ks S
variable {x : Str} {p kpos : Pos} {e k : Expr} {es : List Expr} {ml : DM (List D)} {mk : DM D} {id : String} {f : List D → List D → Sto → Out D} {nm : Str}
theorem px_callBK1 (hc : CallKX X g id [nm] f) (hg : Gl X x) (hm : X.mg x = none) (hv : bootBuiltins x = some (.builtin id)) (ha : PA X (e :: es) (TL g E ml)) (hk : PE X k (T g E mk)) (hn : x ≠ "__name__" := by decide) (hdb : (x == ("__debug__" : Str)) = false := by decide)
    (he : backTo pos (starEach (e :: es) X.env) = (false, eval e X.env) :: backTo pos (starEach es X.env) := by rfl) (hpl : (backTo pos (starEach (e :: es) X.env)).any (·.1) = false := by rfl)
    (hall : (backToKw pos (keywordEach [⟨some nm, k, kpos⟩] X.env)).all (·.1.isSome) = true := by rfl) (hnone : (backToKw pos (keywordEach [⟨some nm, k, kpos⟩] X.env)).any (·.1.isNone) = false := by rfl) (hks : (backToKw pos (keywordEach [⟨some nm, k, kpos⟩] X.env)).filterMap (·.1) = [nm] := by rfl) :
    PE X (.Call (.Name x p) (e :: es) [⟨some nm, k, kpos⟩] pos) (T g E (eCallK f ml (lCons mk lNil))) :=
  PE.imp (pe_callBK (hc E) hg hm hv ha (pk_cons hk pk_nil) hn hdb he hpl hall hnone hks) fun σ H Q ⟨L, σd, S, rp, sl, ev⟩ => ⟨L, σd, S, rp, sl, ev.step fun ds S1 L1 H1 x1 r1 ev1 vs dns =>
    ⟨L1, σd, S1, r1, sl.ext rp x1, (Ev.bind (Ev.bind ev1)).imp fun d S2 L2 H2 x2 r2 ev2 v dn => ⟨L2, S2, ds, [d], r2, Dens.ext r1 x2 dns, .cons dn .nil, (show Ev g E L2 H2 (Out.ok [d] S2) (fun a S' L' H' => Ev g E L' H' (f ds a S') (PV g Q)) from ev2) L2 H2 Ext.refl r2⟩⟩⟩
/-! ### min of a tuple; a, b = a list or a tuple -/
def fMin1Q : LF := fun ds S => match ds with
  | [.pd (.tuple xs)] => (match intsL xs with
    | some (n :: ns) => .ok (.int (ns.foldl min n)) S
    | _ => .stuck)
  | ds => fMin1 ds S
theorem cx_min1Q (hk : X.K = g.K) (hc : X.calm = true) (hu : X.A.units + 64 < cLine) : CallX X g (.builtin "min") fMin1Q := by
  intro E pins s σ H xs us Q I r h
  obtain ⟨L, S, ds, rp, dn, ev⟩ := h
  unfold fMin1Q at ev
  split at ev
  · rename_i xs
    split at ev
    · rename_i n ns en
      cases dn with
      | cons d1 d2 =>
        cases d2
        obtain ⟨a, vs, rfl, rd, dz⟩ := den_tup d1
        rw [intsL_eq en] at dz
        rw [← hk] at rd
        obtain ⟨its, rv, pl, _⟩ := I.tuple rd
        have dp := dz_ints_dp dz
        rw [← hk] at dp
        obtain ⟨as, ra⟩ := Dp.readsAll I _ _ _ dp rv
        rw [Vals.ref1 r]
        refine PySem.W.min_tuple_data (x := .int n) (xs := ns.map .int) (I.ok.hd hc) (show s.heap.IsTuple a its.toArray from pl) ra (alike_ints2 (n :: ns)) ?_ fun i v h' tk bs hi hr hkp => ?_
        · have := PySem.W.depth_ints (n :: ns)
          rw [List.map_cons] at this
          rw [this]
          omega
        · rw [PySem.W.minD_ints] at hr
          cases hr
          exact ⟨.int _, H, I.kept hkp, ⟨_, rfl⟩, fin_val rp ev (.pd (.int _))⟩
    · exact ev.elim
  · exact cx_min1 hc E pins s σ H _ us Q I r ⟨L, S, ds, rp, dn, ev⟩
def tgSq (t : TgsD) : TgD := fun d σ => match d with
  | .pd (.list ds) => t (ds.map .pd) σ
  | .pd (.tuple ds) => t (ds.map .pd) σ
  | _ => none
def gSeq (K : PySem.W.Frag) (n : Nat) (t : TGs) : TG := fun v σ H Q => gLst K n t v σ H Q ∨ gTup K n t v σ H Q
theorem GT.sq {es : List Expr} {k n : Nat} (hK : X.K = g.K) (hc : X.calm = true) (h : PGs X es (GTs g u)) (hn : (assignEach es X.env).length = n := by rfl) (hst : (assignEach es X.env).findIdx? (·.1) = none := by rfl)
    (hu : ∀ ds σd σd', u ds σd = some σd' → ds.length = n) : PG X (.Tuple es k pos) (GT g (tgSq u)) := by
  have both : PG X (.Tuple es k pos) (gSeq X.K n (GTs g u)) := ⟨fun p s σ H v w Q I r q => q.elim ((pg_lst hc h hn hst).run p s σ H v w Q I r) ((pg_tup hc h hn hst).run p s σ H v w Q I r)⟩
  refine PG.imp both fun v σ H Q ⟨L, σd, S, d, σd', rp, sl, dn, e, q⟩ => ?_
  unfold tgSq at e
  split at e
  · rename_i ds
    obtain ⟨a, vs, rfl, rd, dz⟩ := den_lst dn
    refine .inl ⟨a, vs, rfl, .inl rd, ?_, L, σd, S, _, σd', rp, sl, dz.dens, e, q⟩
    rw [dz.len, ← hu _ _ _ e, List.length_map]
  · rename_i ds
    obtain ⟨a, vs, rfl, rd, dz⟩ := den_tup dn
    rw [← hK] at rd
    refine .inr ⟨a, vs, rfl, rd, ?_, L, σd, S, _, σd', rp, sl, dz.dens, e, q⟩
    rw [dz.len, ← hu _ _ _ e, List.length_map]
  · cases e
theorem px_isiK {a : Expr} {ma : DM D} {p2 : Pos} (hk : X.K = g.K) (t : TyN) {y : Str} (hy : y = Str.ofString t.nm) (hg : Gl X "isinstance") (hm : X.mg "isinstance" = none) (hg2 : Gl X y) (hm2 : X.mg y = none) (ha : PE X a (T g E ma))
    (he : starEach [a, .Name y p2] X.env = (false, eval a X.env) :: starEach [.Name y p2] X.env) : PE X (.Call (.Name "isinstance" p) [a, .Name y p2] [] pos) (T g E (eIsI t ma)) := px_isi hk t hy hg hm hg2 hm2 ha he
end
end DL
end
section
set_option maxHeartbeats 1000000
namespace DLZ
open PySem
open PySem.Sem (wp)
/-! ### zip(a, b, strict=True) of two tuples -/
/-- a strict zip as it lies in the heap -/
abbrev SZ (h : Heap) (z tI tO : Addr) (f : Value) : Prop := h.get? z = some { cls := .type "zip", dict := none, data := .fields #[f, .bool false, .bool true, .ref tI, .ref tO], slots := #[] }
section
variable {prog : Program} {w : World} {A : Around} {E : Value → Shared → Prop} {s : Shared}
theorem orEnd_some {c l : Addr} {n : Nat} {us : Array Value} {u : Value} {Q : Option Value → Shared → Prop} (hc : s.heap.IsTupleIter c l n) (hl : s.heap.IsTuple l us) (hu : us[n]? = some u)
    (q : ∀ g, g.IsTupleIter c l (n + 1) → Heap.SameBut c s.heap g → Q (some u) { s with heap := g }) : wpAny (model prog w) A (Builtin.SmallTypes.nextOrEnd (.ref c)) Q E s := by
  unfold Builtin.SmallTypes.nextOrEnd
  exact wpAny_bind (wpAny_attempt (RZ.nextOf_tuple_item hc hl hu fun g a b => wpAny_pure (q g a b)))
theorem orEnd_none {c l : Addr} {n : Nat} {us : Array Value} {Q : Option Value → Shared → Prop} (hh : A.handled = none) (hc : s.heap.IsTupleIter c l n) (hl : s.heap.IsTuple l us) (hu : us[n]? = none)
    (q : ∀ g, Heap.ExtBut c s.heap g → Q none { s with heap := g }) : wpAny (model prog w) A (Builtin.SmallTypes.nextOrEnd (.ref c)) Q E s := by
  unfold Builtin.SmallTypes.nextOrEnd
  refine wpAny_bind (wpAny_attempt (RZ.nextOf_tuple_end hh hc hl hu fun g e k hk => ?_))
  obtain ⟨o, ho, ht⟩ := hk
  exact wpAny_bind (wpAny_isInstance (T := "StopIteration") (b := true) ⟨o, ho, ht⟩ isSubtype_stop (wpAny_pure (q g k)))
/-- StopIteration raised -/
theorem stop_raised {α : Type} {Q : α → Shared → Prop} (hh : A.handled = none) (hE : ∀ g e, (∀ b o, s.heap.get? b = some o → g.get? b = some o) → (∃ o, g.get? e = some o ∧ o.cls = .type "StopIteration") → E (.ref e) { s with heap := g }) :
    wpAny (model prog w) A (Builtin.SmallTypes.stopIteration : Sem α) Q E s := by
  unfold Builtin.SmallTypes.stopIteration
  refine wpAny_bind ?_
  simp only [newExc, newTuple]
  refine wpAny_bind (wpAny_newObj_type ?_ (by size_fits))
  refine wpAny_bind (m := firstArgMember _ _) (wpAny_of_eq (a := Value.none) (by first | rfl | (simp only [firstArgMember]; rfl)) ?_)
  refine wpAny_newObj_type ?_ (by size_fits)
  exact wpAny_raiseNew_none hh (hE _ _ (fun b o k => Heap.get?_push_of_some _ (Heap.get?_push_of_some _ k)) ⟨_, Heap.get?_push_size _ rfl, rfl⟩)
theorem zipS_item {z tI tO c1 c2 l1 l2 : Addr} {n1 n2 : Nat} {us vs : Array Value} {u v a b : Value} {Q : Value → Shared → Prop} (D : ZipApart z tI tO c1 c2 l1 l2)
    (hz : SZ s.heap z tI tO .none) (hI : IsPair s.heap tI (.ref c1) (.ref c2)) (hO : IsPair s.heap tO a b)
    (k1 : s.heap.IsTupleIter c1 l1 n1) (k2 : s.heap.IsTupleIter c2 l2 n2) (p1 : s.heap.IsTuple l1 us) (p2 : s.heap.IsTuple l2 vs) (hu : us[n1]? = some u) (hv : vs[n2]? = some v)
    (q : ∀ g, SZ g z tI tO (rawInt s.heap.objs.size) → IsPair g tO u v → g.IsTupleIter c1 l1 (n1 + 1) → g.IsTupleIter c2 l2 (n2 + 1) → IsPair g s.heap.objs.size u v → g.objs.size = s.heap.objs.size + 1 →
      (∀ d o, d ≠ z → d ≠ tO → d ≠ c1 → d ≠ c2 → s.heap.get? d = some o → g.get? d = some o) → Q (.ref s.heap.objs.size) { s with heap := g }) :
    wpAny (model prog w) A (Builtin.«zip.__next__» ⟨[.ref z], []⟩) (fun fin t => ∃ r, fin = .done (.ret r) ∧ Q r t) E s := by
  show wpAny _ _ (field (.ref z) 2 >>= _) _ _ _
  refine wpAny_bind (wpAny_field hz rfl (x := .bool true) rfl ?_)
  show wpAny _ _ (field (.ref z) 3 >>= _) _ _ _
  refine wpAny_bind (wpAny_field hz rfl (x := .ref tI) rfl (wpAny_bind (wpAny_seqItems hI rfl ?_)))
  show wpAny _ _ (Builtin.SmallTypes.ownedTupleIsFree (.ref z) >>= _) _ _ _
  refine wpAny_bind ?_
  unfold Builtin.SmallTypes.ownedTupleIsFree
  refine wpAny_bind (wpAny_field hz rfl (x := .none) rfl (wpAny_pure ?_))
  rw [if_pos rfl]
  refine wpAny_bind (wpAny_rule (wpAny_bind (wpAny_field hz rfl (x := .ref tO) rfl (wpAny_bind (wpAny_setField_rec hz (by simp) fun g1 z1 b1 => ?_)))))
  have z1 : SZ g1 z tI tO .ellipsis := z1
  refine wpAny_bind ?_
  simp only [List.zipIdx_cons, List.zipIdx_nil, List.forIn_cons, List.forIn_nil]
  refine wpAny_bind (wpAny_bind (wpAny_onRaise ?_))
  show wpAny _ _ (Builtin.SmallTypes.nextOrEnd (.ref c1)) _ _ _
  refine orEnd_some (k1.extBut b1.extBut D.i1z) (p1.extBut b1.extBut D.l1z) hu fun g2 m1 b2 => ?_
  have o2 : IsPair g2 tO a b := b2.extBut _ _ D.TOi1 (b1.extBut _ _ D.TOz hO)
  refine wpAny_bind (wpAny_seqItems o2 rfl (wpAny_bind (wpAny_updateSeq_pair o2 fun g3 o3 b3 => ?_)))
  have o3 : IsPair g3 tO u b := o3
  refine wpAny_bind (wpAny_letGo (wpAny_pure ?_))
  refine wpAny_bind (wpAny_bind (wpAny_onRaise ?_))
  show wpAny _ _ (Builtin.SmallTypes.nextOrEnd (.ref c2)) _ _ _
  refine orEnd_some (((k2.extBut b1.extBut D.i2z).extBut b2.extBut D.i12.symm).extBut b3.extBut D.TOi2.symm) (((p2.extBut b1.extBut D.l2z).extBut b2.extBut D.l2i1).extBut b3.extBut D.l2TO) hv fun g4 m2 b4 => ?_
  have o4 : IsPair g4 tO u b := b4.extBut _ _ D.TOi2 o3
  refine wpAny_bind (wpAny_seqItems o4 rfl (wpAny_bind (wpAny_updateSeq_pair o4 fun g5 o5 b5 => ?_)))
  have o5 : IsPair g5 tO u v := o5
  refine wpAny_bind (wpAny_letGo (wpAny_pure (wpAny_pure ?_)))
  refine wpAny_bind (wpAny_seqItems o5 rfl (wpAny_bind (wpAny_newTuple ?_)))
  have sz : g5.objs.size = s.heap.objs.size := by rw [b5.1, b4.1, b3.1, b2.1, b1.1]
  have z5 : SZ g5 z tI tO .ellipsis := b5.extBut _ _ D.TOz.symm (b4.extBut _ _ D.i2z.symm (b3.extBut _ _ D.TOz.symm (b2.extBut _ _ D.i1z.symm z1)))
  have all5 : ∀ d o, d ≠ z → d ≠ tO → d ≠ c1 → d ≠ c2 → s.heap.get? d = some o → g5.get? d = some o := fun d o e1 e2 e3 e4 e =>
    b5.extBut _ _ e2 (b4.extBut _ _ e4 (b3.extBut _ _ e2 (b2.extBut _ _ e3 (b1.extBut _ _ e1 e))))
  have m1 : g5.IsTupleIter c1 l1 (n1 + 1) := ((m1.extBut b3.extBut D.TOi1.symm).extBut b4.extBut D.i12).extBut b5.extBut D.TOi1.symm
  have m2 : g5.IsTupleIter c2 l2 (n2 + 1) := m2.extBut b5.extBut D.TOi2.symm
  have ltz : z < g5.objs.size := Heap.lt_size z5
  show wpAny _ _ (Builtin.SmallTypes.ownedTupleHandOut (.ref z) (.ref g5.objs.size) >>= _) _ _ _
  refine wpAny_bind ?_
  unfold Builtin.SmallTypes.ownedTupleHandOut
  have z6 : SZ (g5.push { cls := .type "tuple", data := .seq #[u, v] }) z tI tO .ellipsis := Heap.get?_push_of_some _ z5
  refine wpAny_bind (wpAny_setField_rec z6 (by simp) fun g7 z7 b7 => ?_)
  have z7 : SZ g7 z tI tO (rawInt g5.objs.size) := z7
  refine wpAny_setField_rec z7 (by simp) fun g8 z8 b8 => ?_
  have z8 : SZ g8 z tI tO (rawInt g5.objs.size) := z8
  have up : ∀ d o, d ≠ z → g5.get? d = some o → g8.get? d = some o := fun d o e1 e => b8.extBut _ _ e1 (b7.extBut _ _ e1 (Heap.get?_push_of_some _ e))
  have new : IsPair g8 g5.objs.size u v := b8.extBut _ _ (Nat.ne_of_gt ltz) (b7.extBut _ _ (Nat.ne_of_gt ltz) (Heap.get?_push_size _ rfl))
  have sz8 : g8.objs.size = g5.objs.size + 1 := by rw [b8.1, b7.1, Heap.size_push]
  rw [sz] at z8 new sz8
  refine wpAny_pure ⟨_, rfl, ?_⟩
  show Q (.ref g5.objs.size) _
  rw [sz]
  exact q g8 z8 (up _ _ D.TOz o5) (m1.at fun o e => up _ o D.i1z e) (m2.at fun o e => up _ o D.i2z e) new sz8 fun d o e1 e2 e3 e4 e => up d o e1 (all5 d o e1 e2 e3 e4 e)
theorem zipS_end {z tI tO c1 c2 l1 l2 : Addr} {n1 n2 : Nat} {us vs : Array Value} {a b : Value} {Q : Fin → Shared → Prop} (hh : A.handled = none) (D : ZipApart z tI tO c1 c2 l1 l2)
    (hz : SZ s.heap z tI tO .none) (hI : IsPair s.heap tI (.ref c1) (.ref c2)) (hO : IsPair s.heap tO a b)
    (k1 : s.heap.IsTupleIter c1 l1 n1) (k2 : s.heap.IsTupleIter c2 l2 n2) (p1 : s.heap.IsTuple l1 us) (p2 : s.heap.IsTuple l2 vs) (hu : us[n1]? = none) (hv : vs[n2]? = none)
    (hE : ∀ g e, (∀ d o, d ≠ z → d ≠ tO → d ≠ c1 → d ≠ c2 → s.heap.get? d = some o → g.get? d = some o) → (∃ o, g.get? e = some o ∧ o.cls = .type "StopIteration") → E (.ref e) { s with heap := g }) :
    wpAny (model prog w) A (Builtin.«zip.__next__» ⟨[.ref z], []⟩) Q E s := by
  show wpAny _ _ (field (.ref z) 2 >>= _) _ _ _
  refine wpAny_bind (wpAny_field hz rfl (x := .bool true) rfl ?_)
  show wpAny _ _ (field (.ref z) 3 >>= _) _ _ _
  refine wpAny_bind (wpAny_field hz rfl (x := .ref tI) rfl (wpAny_bind (wpAny_seqItems hI rfl ?_)))
  show wpAny _ _ (Builtin.SmallTypes.ownedTupleIsFree (.ref z) >>= _) _ _ _
  refine wpAny_bind ?_
  unfold Builtin.SmallTypes.ownedTupleIsFree
  refine wpAny_bind (wpAny_field hz rfl (x := .none) rfl (wpAny_pure ?_))
  rw [if_pos rfl]
  refine wpAny_bind (wpAny_rule (wpAny_bind (wpAny_field hz rfl (x := .ref tO) rfl (wpAny_bind (wpAny_setField_rec hz (by simp) fun g1 z1 b1 => ?_)))))
  have z1 : SZ g1 z tI tO .ellipsis := z1
  refine wpAny_bind ?_
  simp only [List.zipIdx_cons, List.zipIdx_nil, List.forIn_cons, List.forIn_nil]
  refine wpAny_bind (wpAny_bind (wpAny_onRaise ?_))
  show wpAny _ _ (Builtin.SmallTypes.nextOrEnd (.ref c1)) _ _ _
  refine orEnd_none hh (k1.extBut b1.extBut D.i1z) (p1.extBut b1.extBut D.l1z) hu fun g2 b2 => ?_
  have z2 : SZ g2 z tI tO .ellipsis := b2 _ _ D.i1z.symm z1
  refine wpAny_bind (wpAny_setField_rec z2 (by simp) fun g3 z3 b3 => ?_)
  refine wpAny_bind ?_
  show wpAny _ _ (forIn (m := Sem) (List.zipIdx [Value.ref c2] 1) _ _ >>= _) _ _ _
  refine wpAny_bind ?_
  simp only [List.zipIdx_cons, List.zipIdx_nil, List.forIn_cons, List.forIn_nil]
  refine wpAny_bind (wpAny_bind (orEnd_none hh (((k2.extBut b1.extBut D.i2z).extBut b2 D.i12.symm).extBut b3.extBut D.i2z) (((p2.extBut b1.extBut D.l2z).extBut b2 D.l2i1).extBut b3.extBut D.l2z) hv fun g4 b4 => ?_))
  show wpAny _ _ (pure (ForInStep.yield PUnit.unit)) _ _ _
  refine wpAny_pure ?_
  show wpAny _ _ (pure PUnit.unit) _ _ _
  refine wpAny_pure (wpAny_bind (wpAny_rule ?_))
  exact stop_raised hh fun g e h1 h2 => hE g e (fun d o e1 e2 e3 e4 q => h1 d o (b4 _ _ e4 (b3.extBut _ _ e1 (b2 _ _ e3 (b1.extBut _ _ e1 q))))) h2
/-- the next pair -/
theorem nextS_item {z tI tO c1 c2 l1 l2 : Addr} {n1 n2 : Nat} {us vs : Array Value} {u v a b : Value} {Q : Option Value → Shared → Prop} (D : ZipApart z tI tO c1 c2 l1 l2)
    (hz : SZ s.heap z tI tO .none) (hI : IsPair s.heap tI (.ref c1) (.ref c2)) (hO : IsPair s.heap tO a b)
    (k1 : s.heap.IsTupleIter c1 l1 n1) (k2 : s.heap.IsTupleIter c2 l2 n2) (p1 : s.heap.IsTuple l1 us) (p2 : s.heap.IsTuple l2 vs) (hu : us[n1]? = some u) (hv : vs[n2]? = some v)
    (q : ∀ g, SZ g z tI tO (rawInt s.heap.objs.size) → IsPair g tO u v → g.IsTupleIter c1 l1 (n1 + 1) → g.IsTupleIter c2 l2 (n2 + 1) → IsPair g s.heap.objs.size u v → g.objs.size = s.heap.objs.size + 1 →
      (∀ d o, d ≠ z → d ≠ tO → d ≠ c1 → d ≠ c2 → s.heap.get? d = some o → g.get? d = some o) → Q (some (.ref s.heap.objs.size)) { s with heap := g }) :
    wpAny (model prog w) A (pyNext (.ref z)) Q E s := by
  have ty : s.TypeIs (.ref z) "zip" := ⟨_, hz, rfl⟩
  unfold pyNext
  refine wpAny_bind (wpAny_attempt (wpAny_callSpecial?_slot (name := Str.ofString "__next__") ty F.slot_zip_next (wpAny_call_entry F.slot_zip_next ty F.entry_zip_next ?_ (F.args_zip_next_1 _))))
  exact zipS_item D hz hI hO k1 k2 p1 p2 hu hv fun g e1 e2 e3 e4 e5 e6 e7 => wpAny_pure (q g e1 e2 e3 e4 e5 e6 e7)
theorem nextS_end {z tI tO c1 c2 l1 l2 : Addr} {n1 n2 : Nat} {us vs : Array Value} {a b : Value} {Q : Option Value → Shared → Prop} (hh : A.handled = none) (D : ZipApart z tI tO c1 c2 l1 l2)
    (hz : SZ s.heap z tI tO .none) (hI : IsPair s.heap tI (.ref c1) (.ref c2)) (hO : IsPair s.heap tO a b)
    (k1 : s.heap.IsTupleIter c1 l1 n1) (k2 : s.heap.IsTupleIter c2 l2 n2) (p1 : s.heap.IsTuple l1 us) (p2 : s.heap.IsTuple l2 vs) (hu : us[n1]? = none) (hv : vs[n2]? = none)
    (q : ∀ g, (∀ d o, d ≠ z → d ≠ tO → d ≠ c1 → d ≠ c2 → s.heap.get? d = some o → g.get? d = some o) → Q none { s with heap := g }) : wpAny (model prog w) A (pyNext (.ref z)) Q E s := by
  have ty : s.TypeIs (.ref z) "zip" := ⟨_, hz, rfl⟩
  unfold pyNext
  refine wpAny_bind (wpAny_attempt (wpAny_callSpecial?_slot (name := Str.ofString "__next__") ty F.slot_zip_next (wpAny_call_entry F.slot_zip_next ty F.entry_zip_next ?_ (F.args_zip_next_1 _))))
  refine zipS_end hh D hz hI hO k1 k2 p1 p2 hu hv fun g e hk he => ?_
  obtain ⟨o, ho, ht⟩ := he
  exact wpAny_bind (wpAny_isInstance (T := "StopIteration") (b := true) ⟨o, ho, ht⟩ isSubtype_stop (wpAny_pure (q g hk)))
end
/-! ### the making -/
def kwS : List (Str × Value) := [(Str.ofString "strict", .bool true)]
theorem tc_zipS (a b : Value) : checkTypeCall "zip" ⟨[a, b], kwS⟩ = pure () := by kernel_rfl
theorem nc_zipS (a b : Value) : checkBuiltinCall "zip.__new__" ⟨[.type "zip", a, b], kwS⟩ = pure () := by kernel_rfl
theorem ao_zipS (o a b : Value) : argsOk "object.__init__" ⟨[o, a, b], kwS⟩ := by unfold argsOk; kernel_rfl
abbrev g1 (h : Heap) (a : Addr) : Heap := h.push { cls := .type "tuple_iterator", data := .fields #[.ref a, .int 0 0] }
abbrev g2 (h : Heap) (a b : Addr) : Heap := (g1 h a).push { cls := .type "tuple_iterator", data := .fields #[.ref b, .int 0 0] }
abbrev g3 (h : Heap) (a b : Addr) : Heap := (g2 h a b).push { cls := .type "tuple", data := .seq #[.ref h.objs.size, .ref (g1 h a).objs.size] }
abbrev g4 (h : Heap) (a b : Addr) : Heap := (g3 h a b).push { cls := .type "tuple", data := .seq #[.none, .none] }
abbrev g5 (h : Heap) (a b : Addr) : Heap := (g4 h a b).push { cls := .type "zip", data := .fields #[.none, .bool false, .bool true, .ref (g2 h a b).objs.size, .ref (g3 h a b).objs.size] }
theorem meets_zipS (a b : Addr) (us vs : Array Value) :
    Meets (Builtin.«zip.__new__» ⟨[.type "zip", .ref a, .ref b], kwS⟩) (fun _ R s => s.heap.IsTuple a us ∧ s.heap.IsTuple b vs ∧ R (.ok (.ret (.ref (g4 s.heap a b).objs.size))) { s with heap := g5 s.heap a b }) :=
  .of_wp fun prog w A R s h => by
    obtain ⟨hp, g, d, tk, os⟩ := s
    obtain ⟨h1, h2, h⟩ := h
    have hsub := sub_zip
    have e1 : (Str.ofString "strict" != ("strict" : Str)) = false := by decide +kernel
    have L1 : Heap.IsTuple (Shared.heap ⟨hp, g, d, tk, os⟩) a us := h1
    have L2 : Heap.IsTuple (Shared.heap ⟨hp.push { cls := .type "tuple_iterator", data := .fields #[.ref a, .int 0 0] }, g, d, tk, os⟩) b vs := Heap.IsTuple.push h2 _
    unfold kwS
    wp_walk using wpAny_pyIter_tuple L1, wpAny_pyIter_tuple L2
    exact ⟨_, rfl, h⟩
end DLZ
end
section
namespace DLZ
open PySem
section
variable {prog : Program} {w : World} {A : Around} {E : Value → Shared → Prop} {s : Shared}
theorem call_zipS {a b : Addr} {us vs : Array Value} {Q : Value → Shared → Prop} (h1 : s.heap.IsTuple a us) (h2 : s.heap.IsTuple b vs)
    (q : ∀ g, SZ g (s.heap.objs.size + 4) (s.heap.objs.size + 2) (s.heap.objs.size + 3) .none → IsPair g (s.heap.objs.size + 2) (.ref s.heap.objs.size) (.ref (s.heap.objs.size + 1)) →
      IsPair g (s.heap.objs.size + 3) .none .none → g.IsTupleIter s.heap.objs.size a 0 → g.IsTupleIter (s.heap.objs.size + 1) b 0 →
      (∀ d o, s.heap.get? d = some o → g.get? d = some o) → Q (.ref (s.heap.objs.size + 4)) { s with heap := g }) :
    wpAny (model prog w) A (call (.type "zip") [.ref a, .ref b] kwS) Q E s := by
  refine callType_newKw F.called_zip (by decide) (tc_zipS _ _) (nc_zipS _ _) (fun o => ao_zipS o _ _) F.entry_zip_new (meets_zipS a b us vs) ⟨h1, h2, ?_⟩
  have y1 : (g1 s.heap a).objs.size = s.heap.objs.size + 1 := Heap.size_push ..
  have y2 : (g2 s.heap a b).objs.size = s.heap.objs.size + 2 := by rw [Heap.size_push, y1]
  have y3 : (g3 s.heap a b).objs.size = s.heap.objs.size + 3 := by rw [Heap.size_push, y2]
  have y4 : (g4 s.heap a b).objs.size = s.heap.objs.size + 4 := by rw [Heap.size_push, y3]
  have e5 : (g5 s.heap a b).get? (g4 s.heap a b).objs.size = some _ := Heap.get?_push_size _ rfl
  have e4 : (g5 s.heap a b).get? (g3 s.heap a b).objs.size = some _ := Heap.get?_push_of_some _ (Heap.get?_push_size _ rfl)
  have e3 : (g5 s.heap a b).get? (g2 s.heap a b).objs.size = some _ := Heap.get?_push_of_some _ (Heap.get?_push_of_some _ (Heap.get?_push_size _ rfl))
  have e2 : (g5 s.heap a b).get? (g1 s.heap a).objs.size = some _ := Heap.get?_push_of_some _ (Heap.get?_push_of_some _ (Heap.get?_push_of_some _ (Heap.get?_push_size _ rfl)))
  have e1 : (g5 s.heap a b).get? s.heap.objs.size = some _ := Heap.get?_push_of_some _ (Heap.get?_push_of_some _ (Heap.get?_push_of_some _ (Heap.get?_push_of_some _ (Heap.get?_push_size _ rfl))))
  show _ ∧ _
  rw [y2, y3, y4] at e5
  rw [y1, y2] at e3
  rw [y3] at e4
  rw [y1] at e2
  rw [y4]
  exact ⟨⟨_, e5, rfl⟩, q _ e5 e3 e4 ⟨_, e1, rfl, rfl⟩ ⟨_, e2, rfl, rfl⟩ fun d o x => Heap.get?_push_of_some _ (Heap.get?_push_of_some _ (Heap.get?_push_of_some _ (Heap.get?_push_of_some _ (Heap.get?_push_of_some _ x))))⟩
theorem letgo_S {es : List Expr} {k} {pos : Pos} {z tI tO t : Addr} {Q : Unit → Shared → Prop} (hz : SZ s.heap z tI tO (rawInt t)) (q : ∀ g, SZ g z tI tO .none → Heap.SameBut z s.heap g → Q () { s with heap := g }) :
    wpAny (model prog w) A (letOwnedTupleGo (.Tuple es k pos) (.ref z) (.ref t)) Q E s := by
  unfold letOwnedTupleGo
  refine wpAny_bind (wpAny_load hz ?_)
  show wpAny _ _ (if (["enumerate", "zip", "dict_itemiterator", "dict_reverseitemiterator", "odict_iterator", "itertools.zip_longest", "itertools.pairwise"].contains "zip" && (#[rawInt t, .bool false, .bool true, .ref tI, .ref tO] : Array Value)[0]? == some (rawInt t)) = true then _ else _) Q E s
  rw [if_pos (by simp)]
  refine wpAny_bind (wpAny_rule ?_)
  show wpAny _ _ (setField (.ref z) 0 .none) Q E s
  exact wpAny_setField_rec hz (by simp) fun g e1 e2 => q g e1 e2
theorem iter_S {z tI tO : Addr} {f : Value} {Q : Value → Shared → Prop} (hz : SZ s.heap z tI tO f) (q : Q (.ref z) s) : wpAny (model prog w) A (pyIter (.ref z)) Q E s := by
  have ty : s.TypeIs (.ref z) "zip" := ⟨_, hz, rfl⟩
  refine wpAny_pyIter_slot ty F.slot_zip_iter (wpAny_call_entry F.slot_zip_iter ty F.entry_zip_iter ?_ (F.args_zip_iter_1 _))
  show wpAny _ _ (ret (.ref z)) _ _ s
  exact wpAny_pure ⟨_, rfl, "zip", _, ty, F.slot_zip_next.lookup, q⟩
end
end DLZ
namespace DL
open PySem PySem.Spec PyProof.Rows L2 DLZ
open Classical
/-- as a zip, but at the end nothing is left of either -/
def ItS (K : PySem.W.Frag) (a b : Addr) : It := ⟨(RZ.ItzT K a b).go, (RZ.ItzT K a b).yld, fun i H => ∃ xs ys : List V, SqT K H a xs ∧ SqT K H b ys ∧ xs.length ≤ i ∧ ys.length ≤ i⟩
theorem turn_S {P : Program} {w : World} {K : PySem.W.Frag} {es : List Expr} {kk : Nat} {tpos : Pos} {a b z tI tO c1 c2 : Addr} (D : ZipApart z tI tO c1 c2 a b) :
    Turn P w K (.Tuple es kk tpos) (ItS K a b) [z, tI, tO, c1, c2] z (fun i h => SZ h z tI tO .none ∧ IsPair h tI (.ref c1) (.ref c2) ∧ (∃ x y, IsPair h tO x y) ∧ h.IsTupleIter c1 a i ∧ h.IsTupleIter c2 b i) where
  mem := by simp
  obj := by
    rintro i h ⟨hz, hI, ⟨x, y, hO⟩, ⟨o1, e1, _, d1⟩, ⟨o2, e2, _, d2⟩⟩ c hc
    have hc' : c = z ∨ c = tI ∨ c = tO ∨ c = c1 ∨ c = c2 := by simpa using hc
    rcases hc' with rfl | rfl | rfl | rfl | rfl
    · exact ⟨_, hz, fun v q => nomatch q⟩
    · exact ⟨_, hI, fun v q => nomatch q⟩
    · exact ⟨_, hO, fun v q => nomatch q⟩
    · exact ⟨o1, e1, fun v q => by rw [d1] at q; cases q⟩
    · exact ⟨o2, e2, fun v q => by rw [d2] at q; cases q⟩
  keep := by
    rintro i h h' ⟨hz, hI, ⟨x, y, hO⟩, h1, h2⟩ k
    exact ⟨k z (by simp) _ hz, k tI (by simp) _ hI, ⟨x, y, k tO (by simp) _ hO⟩, h1.at fun o q => k c1 (by simp) o q, h2.at fun o q => k c2 (by simp) o q⟩
  item := by
    intro X hP hw hK hc i pins s σ H E I hf st hg
    subst hP hw hK
    obtain ⟨hz, hI, ⟨x0, y0, hO⟩, h1, h2⟩ := st
    obtain ⟨xs, ys, x, y, hqx, hqy, hx, hy⟩ := hg
    obtain ⟨us, rv, p, _⟩ := I.tuple hqx
    obtain ⟨vs, rv2, p2, _⟩ := I.tuple hqy
    obtain ⟨u, hu, ru⟩ := rv.get hx
    obtain ⟨v, hv, rw⟩ := rv2.get hy
    have ltz : z < s.heap.objs.size := Heap.lt_size hz
    have five : ∀ {c : Addr}, c ∈ [z, tI, tO, c1, c2] → c = z ∨ c = tI ∨ c = tO ∨ c = c1 ∨ c = c2 := fun h => by simpa using h
    refine nextS_item D hz hI hO h1 h2 p p2 (u := u) (v := v) (by simpa using hu) (by simpa using hv) fun g z' O' k1 k2 hT hsz hk => ?_
    refine ⟨_, rfl, letgo_S (s := { s with heap := g }) z' fun g2 z2 sb => ?_⟩
    have hT2 : g2.get? s.heap.objs.size = some { cls := .type "tuple", data := .seq #[u, v] } := (sb.2 _ (Nat.ne_of_gt ltz)).trans hT
    have new : ObjOk X.prog X.w (upd H s.heap.objs.size (.tup [x, y])) g2 s.heap.objs.size (.tup [x, y]) := ⟨by show 2 ≤ sizeLine; decide, [u, v], .cons ru (.cons rw .nil), ⟨_, hT2, rfl, _, rfl⟩⟩
    have I1 : Inv X pins σ (upd H s.heap.objs.size (.tup [x, y])) { s with heap := g2 } :=
      I.turnedNew (t' := s.toks) (ch := [z, tI, tO, c1, c2]) (fun c o hb q => (sb.2 c (fun e => hb (by simp [e]))).trans (hk c o (fun e => hb (by simp [e])) (fun e => hb (by simp [e])) (fun e => hb (by simp [e])) (fun e => hb (by simp [e])) q)) hf (Nat.le_refl _) new
    refine ⟨.ref s.heap.objs.size, _, I1, rfl, ⟨_, x, y, rfl, I.hok.fresh (Nat.le_refl _), rfl, fun l hl => by rw [I.tuple_inj hl hqx]; exact hx, fun l hl => by rw [I.tuple_inj hl hqy]; exact hy⟩, ⟨z2, ?_, ⟨u, v, ?_⟩, ?_, ?_⟩, fun c hcm => ?_⟩
    · exact (sb.2 _ D.TIz).trans (hk _ _ D.TIz D.TITO D.TIi1 D.TIi2 hI)
    · exact (sb.2 _ D.TOz).trans O'
    · exact k1.at fun o q => (sb.2 _ D.i1z).trans q
    · exact k2.at fun o q => (sb.2 _ D.i2z).trans q
    · have hlt : c < s.heap.objs.size := by
        rcases five hcm with rfl | rfl | rfl | rfl | rfl
        · exact ltz
        · exact Heap.lt_size hI
        · exact Heap.lt_size hO
        · obtain ⟨_, e1, _⟩ := h1; exact Heap.lt_size e1
        · obtain ⟨_, e1, _⟩ := h2; exact Heap.lt_size e1
      rw [upd_ne (Nat.ne_of_lt hlt)]
      exact (hf c hcm).1
  done := by
    intro X hP hw hK hc i pins s σ H E I hf st hg
    subst hP hw hK
    obtain ⟨hz, hI, ⟨x0, y0, hO⟩, h1, h2⟩ := st
    obtain ⟨xs, ys, hqx, hqy, d1, d2⟩ := hg
    obtain ⟨us, rv, p, _⟩ := I.tuple hqx
    obtain ⟨vs, rv2, p2, _⟩ := I.tuple hqy
    have l1 := rv.length
    have l2 := rv2.length
    refine nextS_end (I.ok.hd hc) D hz hI hO h1 h2 p p2 (by simp; omega) (by simp; omega) fun g hk => ⟨rfl, I.turnedL (t' := s.toks) (ch := [z, tI, tO, c1, c2]) (fun c o hb q =>
      hk c o (fun e => hb (by simp [e])) (fun e => hb (by simp [e])) (fun e => hb (by simp [e])) (fun e => hb (by simp [e])) q) hf⟩
  self := fun A i s Q E st h => iter_S st.1 h
def iZS (K : PySem.W.Frag) (ta : TA) : TI := fun σ H R => ta σ H fun vs H1 => ∃ a b xs ys, vs = [.ref a, .ref b] ∧ SqT K H1 a xs ∧ SqT K H1 b ys ∧ R (ItS K a b) H1
theorem pi_zipS {X : Cx} {e e2 : Expr} {ta : TA} {p pos tpos kp cp : Pos} {j} {es : List Expr} {kk : Nat} (hg : Gl X "zip") (hm : X.mg "zip" = none) (ha : PA X [e, e2] ta)
    (hs : starEach [e, e2] X.env = (false, eval e X.env) :: starEach [e2] X.env := by rfl) (hpl : ((backTo pos (starEach [e, e2] X.env)).any (·.1) || (backToKw pos (keywordEach [⟨some (Str.ofString "strict"), .Constant (.bool true) j cp, kp⟩] X.env)).any (·.1.isNone)) = false := by rfl)
    (hall : (backToKw pos (keywordEach [⟨some (Str.ofString "strict"), .Constant (.bool true) j cp, kp⟩] X.env)).all (·.1.isSome) = true := by rfl) (hks : (backToKw pos (keywordEach [⟨some (Str.ofString "strict"), .Constant (.bool true) j cp, kp⟩] X.env)).filterMap (·.1) = [Str.ofString "strict"] := by rfl) :
    PI X (.Tuple es kk tpos) (.Call (.Name "zip" p) [e, e2] [⟨some (Str.ofString "strict"), .Constant (.bool true) j cp, kp⟩] pos) (iZS X.K ta) := by
  refine ⟨fun pins s σ H R I h => ?_⟩
  have hk : PK X [⟨some (Str.ofString "strict"), .Constant (.bool true) j cp, kp⟩] (tCons (tC (.bl true)) tNil) := pk_cons pe_bl pk_nil
  refine wpAny_Call_Name_kw (ld_blt I hg hm PyProof.Rows.boot_zip (PySem.W.callWith_of (P := fun _ => True) hpl (fun _ _ => ⟨.machine, .inr (.inl rfl), .of_pure rfl⟩) (PyProof.Rows.evalArgs_kw2 hall (thn (ha.run pos pins s σ H _ I h) fun us s1 ⟨vs, H1, I1, r1, q1⟩ => thn (hk.run pos pins s1 σ H1 (fun zs H2 => zs = [.bl true] ∧ H2 = H1) I1 ⟨rfl, rfl⟩) fun ws s2 ⟨zs, H2, I2, r2, q2⟩ => ⟨trivial, ?_⟩) hs)))
  obtain ⟨rfl, rfl⟩ := q2
  obtain ⟨a, b, xs, ys, rfl, hqx, hqy, q⟩ := q1
  cases r1 with
  | cons ra rr =>
  cases rr with
  | cons rb rr =>
  cases rr
  cases ra
  cases rb
  obtain ⟨w1, rfl, rw1⟩ := vals1 r2
  cases rw1
  rw [hks]
  have fresh5 : ∀ c, c ∈ [s2.heap.objs.size + 4, s2.heap.objs.size + 2, s2.heap.objs.size + 3, s2.heap.objs.size, s2.heap.objs.size + 1] → FpOk X pins H2 c := fun c hcm => by
    have hc' : c = s2.heap.objs.size + 4 ∨ c = s2.heap.objs.size + 2 ∨ c = s2.heap.objs.size + 3 ∨ c = s2.heap.objs.size ∨ c = s2.heap.objs.size + 1 := by simpa using hcm
    have hle : s2.heap.objs.size ≤ c := by omega
    exact I2.fpOk hle (I2.hok.fresh hle)
  obtain ⟨us, rv, p1, _⟩ := I2.tuple hqx
  obtain ⟨ts, rv2, p2, _⟩ := I2.tuple hqy
  obtain ⟨o1, ho1, _⟩ := id p1
  obtain ⟨o2, ho2, _⟩ := id p2
  refine call_zipS (show s2.heap.IsTuple a us.toArray from p1) (show s2.heap.IsTuple b ts.toArray from p2) fun g hz hI hO h1 h2 hk2 => iter_S hz ?_
  have I3 : Inv X pins σ H2 { s2 with heap := g } := I2.kept (t' := s2.toks) hk2
  exact ⟨s2.heap.objs.size + 4, [s2.heap.objs.size + 4, s2.heap.objs.size + 2, s2.heap.objs.size + 3, s2.heap.objs.size, s2.heap.objs.size + 1], _, _, H2, rfl, I3, turn_S (PySem.W.ktu_apart s2.heap.objs.size a b (Heap.lt_size ho1) (Heap.lt_size ho2)), ⟨hz, hI, ⟨_, _, hO⟩, h1, h2⟩, fresh5, q⟩
def wkZipS : List D → DM Wk := fun ds _ S => match ds with
  | [.pd (.tuple xs), .pd (.tuple ys)] => if xs.length = ys.length then .ok ⟨zipIt xs ys, .no⟩ S else .stuck
  | _ => .stuck
def iZipS (m : DM (List D)) : DM Wk := mBind m wkZipS
section
variable {g : G} {E : WX} {X : Cx} {a b : Expr} {ml : DM (List D)} {pos p tpos kp cp : Pos} {j : Nat}
theorem ix_zipS (hK : X.K = g.K) (hg : Gl X "zip") (hm : X.mg "zip" = none) {elts : List Expr} {kk : Nat} (ha : PA X [a, b] (TL g E ml))
    (hs : starEach [a, b] X.env = (false, eval a X.env) :: starEach [b] X.env := by rfl) (hpl : ((backTo pos (starEach [a, b] X.env)).any (·.1) || (backToKw pos (keywordEach [⟨some (Str.ofString "strict"), .Constant (.bool true) j cp, kp⟩] X.env)).any (·.1.isNone)) = false := by rfl)
    (hall : (backToKw pos (keywordEach [⟨some (Str.ofString "strict"), .Constant (.bool true) j cp, kp⟩] X.env)).all (·.1.isSome) = true := by rfl) (hks : (backToKw pos (keywordEach [⟨some (Str.ofString "strict"), .Constant (.bool true) j cp, kp⟩] X.env)).filterMap (·.1) = [Str.ofString "strict"] := by rfl) :
    PI X (.Tuple elts kk tpos) (.Call (.Name "zip" p) [a, b] [⟨some (Str.ofString "strict"), .Constant (.bool true) j cp, kp⟩] pos) (TW g E (iZipS ml)) :=
  PI.imp (pi_zipS hg hm ha hs hpl hall hks) fun σ H R ⟨L, σd, S, rp, sl, ev⟩ => ⟨L, σd, S, rp, sl, ev.step fun ds S1 L1 H1 x1 r1 ev1 vs dn => by
    unfold wkZipS at ev1
    split at ev1
    · rename_i xs ys
      split at ev1
      rotate_left
      · exact ev1.elim
      rename_i hl
      have fin := ev1.ok r1
      cases dn with
      | cons n1 n2 =>
        cases n2 with
        | cons n2 n3 =>
          cases n3
          obtain ⟨a1, w1, rfl, t1, z1⟩ := den_tup n1
          obtain ⟨a2, w2, rfl, t2, z2⟩ := den_tup n2
          rw [hK]
          refine ⟨a1, a2, w1, w2, rfl, t1, t2, fin _ fun g' L S H gx x r' _ => ?_⟩
          have stay : ∀ {p : Addr} {w : List V}, SqT g.K H1 p w → SqT g.K H p w := fun {p w} rd => SqT.keep rd fun zs hz o e' it => x.keep p o e' it fun hm => by
            obtain ⟨o2, e2, nt⟩ := r1.there hm
            rcases hz with hz | ⟨o3, hz⟩
            · rw [hz] at e2; cases e2; exact nt.no_tup zs rfl
            · rw [hz] at e2; cases e2; exact nt.no_frz o3 _ rfl
          refine ⟨fun i d e => ?_, w1, w2, stay t1, stay t2, ?_⟩
          · obtain ⟨dx, dy, ex, ey, rfl⟩ := zipIt_get e
            obtain ⟨x', gx', zx⟩ := z1.get ex
            obtain ⟨y', gy', zy⟩ := z2.get ey
            refine ⟨⟨w1, w2, x', y', stay t1, stay t2, gx', gy'⟩, fun z H' hz => ?_⟩
            obtain ⟨T, x2, y2, rfl, hT, rfl, f1, f2⟩ := hz
            have e3 := f1 _ (stay t1)
            have e4 := f2 _ (stay t2)
            rw [gx'] at e3; cases e3
            rw [gy'] at e4; cases e4
            have k := kpx r1 gx x
            exact pairNew r' hT (gx.K ▸ zx.keep k) (gx.K ▸ zy.keep k)
          · rw [z1.len, z2.len]
            show _ ≤ (zipIt xs ys).length ∧ _ ≤ (zipIt xs ys).length
            unfold zipIt
            rw [List.length_zipWith]
            omega
    · exact ev1.elim⟩
end
/-! ### for x in xs[lo:hi], of a list that changes -/
theorem Paired.drop' {α β : Type} {R : α → β → Prop} : ∀ {xs : List α} {ys : List β}, Paired R xs ys → ∀ n, Paired R (xs.drop n) (ys.drop n)
  | _, _, h, 0 => by simpa using h
  | _, _, .nil, n + 1 => .nil
  | _, _, .cons _ h, n + 1 => Paired.drop' h n
theorem Paired.take' {α β : Type} {R : α → β → Prop} : ∀ {xs : List α} {ys : List β}, Paired R xs ys → ∀ n, Paired R (xs.take n) (ys.take n)
  | _, _, _, 0 => .nil
  | _, _, .nil, n + 1 => .nil
  | _, _, .cons a h, n + 1 => .cons a (Paired.take' h n)
section
variable {g : G} {E : WX} {X : Cx} {L : List Addr} {H : Hp} {S : Sto} {tg a : Expr} {ma : DM D} {l u : DM (Option Int)} {lo hi : Option Expr} {pos p2 : Pos}
theorem cut_dens {ds : List D} {vs : List V} (h : Dens g L H ds vs) (lo hi : Option Int) : Dens g L H (cut ds lo hi) (cutV vs lo hi) := by
  unfold cutV cut
  rw [Paired.len h]
  exact Paired.take' (Paired.drop' h _) _
def wkSl (d : D) (lo hi : Option Int) : Sto → Out Wk := fun S => match asL S d with
  | some xs => .ok ⟨cut xs lo hi, .no⟩ S
  | none => .stuck
def iSl (m : DM D) (lo hi : DM (Option Int)) : DM Wk := mBind m fun d => mBind lo fun l => mBind hi fun u => fun _ S => wkSl d l u S
theorem ix_slR (hK : X.K = g.K) (ha : PE X a (T g E ma)) (hl : PO X lo (TOd g E l)) (hu : PO X hi (TOd g E u)) : PI X tg (.Subscript a (.Slice lo hi none p2) pos) (TW g E (iSl ma l u)) :=
  PI.imp (pi_seq (pe_slice sl_list ha hl hu)) fun σ H R ⟨L, σd, S, rp, sl, ev⟩ => ⟨L, σd, S, rp, sl, ev.step fun d S1 L1 H1 x1 r1 ev1 v dn =>
    ⟨L1, σd, S1, r1, sl.ext rp x1, ev1.step fun lo S2 L2 H2 x2 r2 ev2 => ⟨L2, σd, S2, r2, (sl.ext rp x1).ext r1 x2, ev2.step fun hi S3 L3 H3 x3 r3 ev3 => by
      have n3 := (dn.ext r1 x2).ext r2 x3
      unfold wkSl at ev3
      split at ev3
      · rename_i xs ex
        obtain ⟨p, vs, rfl, rd, ds⟩ := asL_ok r3 n3 ex
        refine ⟨p, vs, rfl, .inl rd, fun q hn => ⟨q, rfl, .inl ⟨_, .inl (.inl upd_same), ?_⟩⟩⟩
        have fin := ev3 L3 (upd H3 q (.lst (cutV vs lo hi))) (Ext.new1 hn) (r3.new1 hn)
        rw [hK]
        refine fin _ fun g' L S H gx x r' gu => ?_
        have hnw : ¬ g.wr L3 q := r3.free hn
        have rdq : SqL g.K H q (cutV vs lo hi) := .inl (Rd.keep (.inl upd_same) fun o e' it => x.keep q o e' it fun hm => hnw (.inr hm))
        have dc := cut_dens ds lo hi
        refine ⟨fun i d e => ?_, _, rdq, by rw [Paired.len dc]; exact Nat.le_refl _⟩
        obtain ⟨y, ey, dy⟩ := Paired.get dc e
        refine ⟨⟨_, y, rdq, ey⟩, fun z H' hz => ?_⟩
        obtain ⟨rfl, hz⟩ := hz
        have := hz _ rdq
        rw [ey] at this
        cases this
        exact ⟨Ext.refl, r', (dy.ext r3 (Ext.new1 hn)).gx (r3.new1 hn) gx x⟩
      · exact ev3.elim⟩⟩⟩
end
end DL
end
section
namespace DL
open PySem PySem.Spec PyProof.Rows L2
/-! ### {"plus": a + b, ..}[word]: a display of sums, differences, products, read at once -/
inductive IOp | add | sub | mul
def IOp.op : IOp → Operator
  | .add => .Add
  | .sub => .Sub
  | .mul => .Mult
def IOp.f : IOp → Int → Int → Int
  | .add, i, j => i + j
  | .sub, i, j => i - j
  | .mul, i, j => i * j
def IOp.can : IOp → Int → Int → Bool
  | .mul, i, j => decide (i.natAbs < 2 ^ 64) && decide (j.natAbs < 2 ^ 64)
  | _, _, _ => true
def rIO (o : IOp) : R2 := fun x y H Q => ∃ i j : Int, x = .int i ∧ y = .int j ∧ o.can i j = true ∧ Q (.int (o.f i j)) H
theorem io_ok {X : Cx} : ∀ o : IOp, OpR X (binaryOp o.op) (rIO o)
  | .add => fun pins s σ H x y v u Q I rx ry ⟨i, j, e1, e2, _, q⟩ => op_add pins s σ H x y v u Q I rx ry ⟨i, j, e1, e2, q⟩
  | .sub => fun pins s σ H x y v u Q I rx ry ⟨i, j, e1, e2, _, q⟩ => op_sub pins s σ H x y v u Q I rx ry ⟨i, j, e1, e2, q⟩
  | .mul => fun pins s σ H x y v u Q I rx ry ⟨i, j, e1, e2, h, q⟩ => op_mul pins s σ H x y v u Q I rx ry ⟨i, j, e1, e2, by
      have h : (decide (i.natAbs < 2 ^ 64) && decide (j.natAbs < 2 ^ 64)) = true := h
      rw [Bool.and_eq_true, decide_eq_true_eq, decide_eq_true_eq] at h
      exact .inl (by omega), q⟩
abbrev tIO (i j : Nat) (p : Str × IOp) : TE × TE := (tC (.str p.1), tOp (rIO p.2) (tVar i) (tVar j))
abbrev kvIO (a b : Int) (p : Str × IOp) : Key × V := (.inr p.1, .int (p.2.f a b))
theorem pairs_io {i j : Nat} {a b : Int} {σ : L2.St} (hi : σ[i]? = some (some (.int a))) (hj : σ[j]? = some (some (.int b))) : ∀ (kos : List (Str × IOp)) {H : Hp} {Q : List (V × V) → Hp → Prop}, (kos.all fun p => p.2.can a b) = true →
    Q (kos.map fun p => (V.str p.1, V.int (p.2.f a b))) H → tPairs (kos.map (tIO i j)) σ H Q
  | [], H, Q, _, q => q
  | p :: r, H, Q, h, q => by
    rw [List.all_cons, Bool.and_eq_true] at h
    exact ⟨.int a, hi, .int b, hj, a, b, rfl, rfl, h.1, pairs_io hi hj r h.2 q⟩
theorem merge_new : ∀ (l acc : List (Key × V)), ((acc ++ l).map (·.1)).Nodup → mergeK acc l = acc ++ l
  | [], acc, _ => by rw [List.append_nil]; rfl
  | p :: r, acc, h => by
    have e : putK acc p.1 p.2 = acc ++ [p] := by
      unfold putK
      rw [if_neg]
      intro hx
      obtain ⟨q, hq, e⟩ := List.any_eq_true.mp hx
      rw [List.map_append, List.nodup_append] at h
      exact h.2.2 q.1 (List.mem_map.mpr ⟨q, hq, rfl⟩) p.1 (by simp) (of_decide_eq_true e)
    show mergeK (putK acc p.1 p.2) r = _
    rw [e, merge_new r (acc ++ [p]) (by simpa using h), List.append_assoc]
    rfl
theorem find_io (a b : Int) (w : Str) : ∀ (kos : List (Str × IOp)) {p : Str × IOp}, (kos.find? fun p => decide (p.1 = w)) = some p → valV (kos.map (kvIO a b)) (.inr w) = some (.int (p.2.f a b))
  | q :: r, p, h => by
    unfold valV
    rw [List.map_cons, List.find?_cons]
    rw [List.find?_cons] at h
    by_cases e : q.1 = w
    · rw [decide_eq_true e] at h
      cases h
      rw [decide_eq_true (show (kvIO a b q).1 = .inr w from congrArg Sum.inr e)]
      rfl
    · rw [decide_eq_false e] at h
      have e2 : ¬ (kvIO a b q).1 = .inr w := fun x => e (Sum.inr.inj x)
      rw [decide_eq_false e2]
      exact find_io a b w r h
def eDispIx (kos : List (Str × IOp)) (i j o : Nat) : DM D := fun σ S => match σ[i]?, σ[j]?, σ[o]? with
  | some (some (.pd (.int a))), some (some (.pd (.int b))), some (some (.pd (.str w))) => if (kos.all fun p => p.2.can a b) = true then (match kos.find? fun p => decide (p.1 = w) with
    | some p => .ok (.int (p.2.f a b)) S
    | none => .stuck) else .stuck
  | _, _, _ => .stuck
section
variable {X : Cx} {g : G} {E : WX} {kos : List (Str × IOp)} {i j o : Nat} {z : Str} {keys : List (Option Expr)} {values : List Expr} {pos p pos2 : Pos}
theorem px_dispIx (hu : X.A.units + 1 < cLine) (hp : PPs X pos keys values (kos.map (tIO i j))) (hall : keys.all (·.isSome) = true) (hl : keys.length = values.length) (h0 : keys ≠ []) (h15 : keys.length ≤ 15) (hk : kos.length ≤ 15) (hd : (kos.map (·.1)).Nodup)
    (hN : X.N[o]? = some z) (hv : Vis X.env.scope z) (hdb : (z == ("__debug__" : Str)) = false) (hcd : (z == ("__classdict__" : Str)) = false) (hs : NoSl (.Name z p)) : PE X (.Subscript (.Dict keys values pos) (.Name z p) pos2) (T g E (eDispIx kos i j o)) :=
  PE.imp (pe_dget hu (pe_disp hp hall hl h0 h15) (pe_var hN hv hdb hcd) hs) fun σ H Q ⟨L, σd, S, rp, sl, ev⟩ => by
    unfold eDispIx at ev
    split at ev
    · rename_i a b w ea eb ew
      split at ev
      · rename_i hc
        split at ev
        · rename_i q hq
          obtain ⟨va, e1, n1⟩ := sl i _ ea
          obtain ⟨vb, e2, n2⟩ := sl j _ eb
          obtain ⟨vw, e3, n3⟩ := sl o _ ew
          cases den_int n1
          cases den_int n2
          cases den_str n3
          intro r hr
          refine pairs_io e1 e2 kos hc ⟨upd_same, kos.map (kvIO a b), by rw [List.map_map]; rfl, by rw [List.length_map]; exact hk, ?_⟩
          have hm : mergeK [] (kos.map (kvIO a b)) = kos.map (kvIO a b) := by
            refine merge_new _ [] ?_
            rw [List.nil_append, List.map_map]
            have : (fun p : Str × IOp => ((Sum.inr p.1 : Key))) = (Sum.inr ∘ fun p : Str × IOp => p.1) := rfl
            show (kos.map fun p : Str × IOp => ((Sum.inr p.1 : Key))).Nodup
            rw [this, ← List.map_map]
            rw [List.nodup_iff_pairwise_ne, List.pairwise_map]
            exact (List.nodup_iff_pairwise_ne.mp hd).imp fun {x y} h e => h (Sum.inr.inj e)
          rw [hm, upd_upd]
          refine ⟨.str w, e3, r, .int (q.2.f a b), rfl, .inl ⟨_, .inr w, .inl upd_same, rfl, (find_io a b w kos hq).symm⟩, ?_⟩
          exact ev L _ (Ext.new1 hr) (rp.new1 hr) _ (.pd (.int _))
        · exact ev.elim
      · exact ev.elim
    · exact ev.elim
end
end DL
namespace DL
open PySem PySem.Spec PyProof.Rows L2
/-! ### xs.count(i), xs a list that stays -/
section
variable {g : G} {E : WX} {X : Cx} {o e : Expr} {es : List Expr} {mo : DM D} {ml : DM (List D)} {apos cpos : Pos}
def tyL (K : PySem.W.Frag) (x : V) (H : Hp) : Prop := tyV K "list" x H
theorem ty_lstL : TyOk X "list" (tyL X.K) := fun _ _ _ _ _ _ I r ty => tyV_is I r ty
def rCntL (K : PySem.W.Frag) (x : V) (xs : List V) (H : Hp) (Q : VK) : Prop := ∃ (a : Addr) (vs : List V) (ns : List Int) (i : Int), x = .ref a ∧ SqL K H a vs ∧ xs = [.int i] ∧ DpAll K H vs (ns.map .int) ∧ Q (.int (ns.count i : Nat)) H
theorem mt_cntL (hu : X.A.units + 64 < cLine) : MtR X "list.count" (rCntL X.K) := by
  intro pins s σ H x xs v us Q I rx rxs h
  obtain ⟨a, vs, ns, i, rfl, hs, rfl, z, q⟩ := h
  cases rx
  obtain ⟨its, rv, pl, _⟩ := I.list hs
  obtain ⟨as, ra⟩ := Dp.readsAll I _ _ _ z rv
  obtain ⟨u, rfl, ru⟩ := vals1 rxs
  obtain ⟨bs, rb⟩ := Dp.reads I _ _ u (.int i) ru
  have room : X.A.units + 1 + min (PyData.depthAll (ns.map .int)) (PyData.int i).depth < cLine := by
    rw [PySem.W.depth_ints]; omega
  refine SeqAt.count_list_data pl.isList ra rb (plain_ints ns) rfl room ?_
  rw [count_ints i ns]
  exact ⟨.int _, H, I.kept (t' := s.toks + 1) (h' := s.heap) fun _ _ e => e, ⟨_, rfl⟩, q⟩
def eCntL (mo : DM D) (ml : DM (List D)) : DM D := mBind mo fun d => fun σ S => match d with
  | .pd (.list ds) => mBind ml (fun es => fun _ S => opCnt ds es S) σ S
  | _ => .stuck
theorem px_cntL (hk : X.K = g.K) (hu : X.A.units + 64 < cLine) (ho : PE X o (T g E mo)) (ha : PA X (e :: es) (TL g E ml))
    (hbase : attributeBase o "count" X.env (eval o X.env) = eval o X.env := by rfl)
    (hfew : ((backTo cpos (starEach (e :: es) X.env)).all (fun x => !x.1) && (backToKw cpos (keywordEach [] X.env)).all (fun x => x.1.isSome)
      && decide ((e :: es).length + ([] : List Keyword).length + (if ([] : List Keyword).isEmpty then 0 else 1) < 30)) = true := by rfl)
    (hline : (apos.endLine == cpos.line) = true := by rfl) (hs : starEach (e :: es) X.env = (false, eval e X.env) :: starEach es X.env := by rfl) (hplain : (backTo cpos (starEach es X.env)).any (·.1) = false := by rfl) :
    PE X (.Call (.Attribute o "count" apos) (e :: es) [] cpos) (T g E (eCntL mo ml)) :=
  PE.imp (pe_mG ty_lstL PySem.F.plainAttrs_list PySem.F.slot_list_count PySem.F.type_list_count (mt_cntL hu) ho ha hbase hfew hline hs hplain) fun σ H Q ⟨L, σd, S, rp, sl, ev⟩ => ⟨L, σd, S, rp, sl, ev.step fun d S1 L1 H1 x1 r1 ev1 v dn => by
    split at ev1
    · rename_i ds
      obtain ⟨a, vs, rfl, rd, z⟩ := den_lst dn
      refine ⟨(show tyV X.K "list" (.ref a) H1 from .inl ⟨rfl, vs, .inl rd⟩), L1, σd, S1, r1, sl.ext rp x1, ev1.step fun es S2 L2 H2 x2 r2 ev2 ws dns => ?_⟩
      obtain ⟨a2, vs2, e2, rd2, z2⟩ := den_lst (Den.ext r1 x2 dn)
      cases e2
      unfold opCnt at ev2
      split at ev2
      · rename_i i
        split at ev2
        · rename_i ns en
          cases dns with
          | cons d1 d2 =>
            cases d2
            cases den_int d1
            rw [intsL_eq en] at z2
            have z3 := dz_ints_dp z2
            rw [← hk] at z3
            exact ⟨a, vs2, ns, i, rfl, .inl rd2, rfl, z3, fin_val r2 ev2 (.pd (.int _))⟩
        · exact ev2.elim
      · exact ev2.elim
    · exact ev1.elim⟩
end
end DL
end
section
namespace DL
open PySem PySem.Spec PyProof.Rows L2
/-! ### i | j; [f, g][i](..) -/
section
variable {X : Cx} {g : G} {E : WX}
def opOr : D → D → Sto → Out D := fun x y S => match x, y with
  | .pd (.int i), .pd (.int j) => .ok (.int (Builtin.bitOr i j)) S
  | _, _ => .stuck
theorem ox_or : OpX X g (binaryOp .BitOr) opOr := by
  intro E pins s σ H x y v u Q I rx ry h
  obtain ⟨L, S, dx, dy, r, nx, ny, ev⟩ := h
  unfold opOr at ev
  split at ev
  · rename_i i j
    cases den_int nx; cases den_int ny
    exact op_or pins s σ H _ _ v u Q I rx ry ⟨i, j, rfl, rfl, fin_val r ev (.pd (.int _))⟩
  · exact ev.elim
def eTwo (n : Nat) (m0 m1 : DF) (ma : DM D) (ml : DM (List D)) : DM D := mBind ma fun z => match z with
  | .pd (.int 0) => mBind ml (callF n m0)
  | .pd (.int 1) => mBind ml (callF n m1)
  | _ => fun _ _ => .stuck
variable {x0 x1 : Str} {ps0 ps1 : List Str} {m0 m1 : DF} {p0 p1 p2 lp pos : Pos} {e a : Expr} {es : List Expr} {ma : DM D} {ml : DM (List D)} {k n : Nat}
theorem px_two (C0 : Cal X.prog X.w X.K X.mg X.base k x0 ps0 m0) (C1 : Cal X.prog X.w X.K X.mg X.base k x1 ps1 m1) (hg0 : Gl X x0) (hg1 : Gl X x1) (hr : RoomG k X.A) (hK : X.K = g.K) (hmg : X.mg = g.mg) (tk : Takes X E) (ha : PE X a (T g E ma)) (hl : PA X (e :: es) (TL g E ml))
    (hn0 : ps0.length = n) (hn1 : ps1.length = n) (hd0 : (x0 == ("__debug__" : Str)) = false) (hd1 : (x1 == ("__debug__" : Str)) = false) (hs : PlainIx a)
    (h01 : starEach [Expr.Name x0 p0, .Name x1 p1] X.env = (false, eval (Expr.Name x0 p0) X.env) :: starEach [.Name x1 p1] X.env) (h11 : starEach [Expr.Name x1 p1] X.env = (false, eval (Expr.Name x1 p1) X.env) :: starEach [] X.env)
    (ht : eval (.Call (.Subscript (.List [.Name x0 p0, .Name x1 p1] lp) a p2) (e :: es) [] pos) X.env = (do callWith pos (← eval (.Subscript (.List [.Name x0 p0, .Name x1 p1] lp) a p2) X.env) [] (backTo pos (starEach (e :: es) X.env)) (backToKw pos (keywordEach [] X.env))))
    (he : starEach (e :: es) X.env = (false, eval e X.env) :: starEach es X.env) (hpl : (backTo pos (starEach es X.env)).any (·.1) = false) :
    PE X (.Call (.Subscript (.List [.Name x0 p0, .Name x1 p1] lp) a p2) (e :: es) [] pos) (T g E (eTwo n m0 m1 ma ml)) := by
  obtain ⟨a0, fd0, F0, hm0, hk0, hb0⟩ := C0.ex
  obtain ⟨a1, fd1, F1, hm1, hk1, hb1⟩ := C1.ex
  have hsub : PE X (.Subscript (.List [.Name x0 p0, .Name x1 p1] lp) a p2) (tOp (rIx X.K) (tLst (tCons (tC (.ref a0)) (tCons (tC (.ref a1)) tNil))) (T g E ma)) :=
    pe_ix L2.ix_seq (pe_lst (pa_cons (pe_glob hg0 hm0 rfl hd0) (pa_cons (pe_glob hg1 hm1 rfl hd1) pa_nil h11) h01)) ha hs
  refine ⟨fun pins s σ H Q I h => ?_⟩
  have hq : tOp (rIx X.K) (tLst (tCons (tC (.ref a0)) (tCons (tC (.ref a1)) tNil))) (T g E ma) σ H (fun y H1 => ∃ b fd ps m, y = .ref b ∧ ps.length = n ∧ FnG X.prog X.w X.K X.mg X.base k b fd ps (spM X.K X.mg ps.length m) ∧ PySem.W.keepIn X.K (.ref b) = true ∧ Binds X.K fd ps [] ∧ T g E (mBind ml (callF n m)) σ H1 Q) := by
    obtain ⟨L, σd, S, rp, sl, ev⟩ := h
    refine ⟨by show 2 ≤ sizeLine; decide, fun q hn => ?_⟩
    have x1 : Ext g L H L (upd H q (.lst [.ref a0, .ref a1])) := Ext.new1 hn
    refine ⟨L, σd, S, rp.new1 hn, sl.ext rp x1, (Ev.of x1 ev).step fun dz S1 L1 H1 x2 r1 ev1 v n1 => ?_⟩
    have hnw : ¬ g.wr L q := rp.free hn
    have rdq : SqL g.K H1 q [.ref a0, .ref a1] := .inl (Rd.keep (.inl upd_same) fun o e' it => x2.keep q o e' it fun hm => hnw (.inr hm))
    rw [← hK] at rdq
    split at ev1
    · cases den_int n1
      exact .inl ⟨q, _, 0, .ref a0, rfl, rfl, rdq, rfl, a0, fd0, ps0, m0, rfl, hn0, F0, hk0, hb0, L1, σd, S1, r1, (sl.ext rp x1).ext (rp.new1 hn) x2, ev1⟩
    · cases den_int n1
      exact .inl ⟨q, _, 1, .ref a1, rfl, rfl, rdq, rfl, a1, fd1, ps1, m1, rfl, hn1, F1, hk1, hb1, L1, σd, S1, r1, (sl.ext rp x1).ext (rp.new1 hn) x2, ev1⟩
    · exact ev1.elim
  refine Call_ (thn (hsub.run pins s σ H _ I hq) fun u s1 ⟨y, H1, I1, ry, b, fd, ps, m, ey, hpl2, F, hk, hb, q⟩ => ?_) ht
  subst ey
  obtain rfl : u = Value.ref b := ry
  subst hpl2
  exact PySem.W.callWith_K (h₀ := X.base) I1.ok.mod.kin hk (thn (hl.run pos pins s1 σ H1 _ I1 (call_reads hK hmg q)) fun us s2 ⟨vs, H2, I2, r, q2⟩ => ⟨I2.kIn, run_fnG (E := fun σ => WE E σ) F hr hb (passAt tk σ) I2 r (by simpa only [List.append_nil] using q2)⟩) he hpl
end
end DL
end
section
namespace DL
open PySem PySem.Spec PyProof.Rows L2
/-! ### raise X('..'), X a class of the text over ValueError; try: .. except X: .. -/
/-- a class of the text, over ValueError, without own __init__ -/
def ExcD (K : PySem.W.Frag) (mg : Str → Option Value) (x : Str) : Prop := ∃ C, mg x = some (.ref C) ∧ PySem.W.excIn K C [.type "ValueError", .type "Exception", .type "BaseException", .type "object"] "ValueError.__new__" = true ∧ PySem.W.keepIn K (.ref C) = true ∧
  PySem.W.subIn K (.ref C) (.type "BaseException") = some true ∧ PySem.W.typeIn K (.ref C) = some (.type "type")
/-- whether an exception of the class y is caught by except z -/
def ExmD (K : PySem.W.Frag) (mg : Str → Option Value) (y z : Str) (b : Bool) : Prop := ∃ A B, mg y = some (.ref A) ∧ mg z = some (.ref B) ∧ PySem.W.exmOne K (.ref A) (.ref B) = some b
theorem exm_of {K : PySem.W.Frag} {cls : Value} {S : Addr} {b : Bool} (h1 : PySem.W.subIn K (.ref S) (.type "BaseException") = some true) (h2 : PySem.W.isClsIn K S = true) (h3 : PySem.W.typeIn K (.ref S) = some (.type "type")) (h4 : PySem.W.subIn K cls (.ref S) = some b) :
    PySem.W.exmOne K cls (.ref S) = some b := by
  have e1 : (PySem.W.subIn K (.ref S) (.type "BaseException") == some true) = true := by rw [h1] <;> rfl
  have e2 : ((PySem.W.clsIn K S).isSome && PySem.W.typeIn K (.ref S) == some (.type "type")) = true := by
    have h2' : (PySem.W.clsIn K S).isSome = true := h2
    rw [h2', h3] <;> rfl
  show (if (PySem.W.subIn K (.ref S) (.type "BaseException") == some true) = true then (if ((PySem.W.clsIn K S).isSome && PySem.W.typeIn K (.ref S) == some (.type "type")) = true then PySem.W.subIn K cls (.ref S) else none) else none) = some b
  rw [if_pos e1, if_pos e2]
  exact h4
section
variable {X : Cx} {g : G} {E : WX}
def sRaise (x : Str) : DM Fl := fun σ S => .exc ⟨.own x, []⟩ σ S
theorem qs_raise {x m : Str} {j : Nat} {p p2 pos pos' : Pos} (hmg : X.mg = g.mg) (hc : X.calm = true) (tk : Takes X E) (hx : ExcD X.K X.mg x) (hg : Gl X x) (hdb : (x == ("__debug__" : Str)) = false := by decide) :
    PS X (.Raise (some (.Call (.Name x p) [.Constant (.str m) j p2] [] pos)) none pos') (TSt g E (sRaise x)) := by
  obtain ⟨C, hC, q, k, h1, h2⟩ := hx
  exact PS.imp (ps_raise hc tk (pmk_own PySem.F.excBase_ValueError q hC k (raises_own h1 h2) hg hdb)) fun D σ H ⟨L, σd, S, rp, sl, ev⟩ =>
    ev L H (.ref C) none σ Ext.refl rp sl (.none ⟨C, hmg ▸ hC, rfl⟩ rfl)
/-- try: body except z: suite; ks: which classes are caught -/
def sTry (ks : List (Str × Bool)) (m ms : DM Fl) : DM Fl := fun σ S => match m σ S with
  | .exc e σ' S' => (match e.cls with
    | .own y => (match ks.lookup y with
      | some true => ms σ' S'
      | some false => .exc e σ' S'
      | none => .stuck)
    | _ => .stuck)
  | o => o
inductive ExmsD (K : PySem.W.Frag) (mg : Str → Option Value) (z : Str) : List (Str × Bool) → Prop
  | nil : ExmsD K mg z []
  | cons {y : Str} {b : Bool} {r : List (Str × Bool)} : ExmD K mg y z b → ExmsD K mg z r → ExmsD K mg z ((y, b) :: r)
theorem ExmsD.get {K : PySem.W.Frag} {mg : Str → Option Value} {z : Str} : ∀ {ks : List (Str × Bool)}, ExmsD K mg z ks → ∀ {y : Str} {b : Bool}, ks.lookup y = some b → ExmD K mg y z b
  | _, .nil, y, b, h => by cases h
  | _, .cons (y := y') h t, y, b, e => by
    rw [List.lookup_cons] at e
    split at e
    · rename_i hy
      cases e
      rw [show y = y' by simpa using hy]
      exact h
    · exact t.get e
theorem qs_try {z : Str} {ks : List (Str × Bool)} {body suite : List Stmt} {b₀ : Stmt} {np pos pos' : Pos} {m ms : DM Fl} (hK : X.K = g.K) (hmg : X.mg = g.mg) (hs : X.stack = X.env :: X.outer) (hf : X.env.frame = some X.env.locals) (tk : Takes X E) (hks : ExmsD X.K X.mg z ks) (hgz : Gl X z)
    (hz : ∃ C, X.mg z = some (.ref C))
    (hb : ∀ (W : WX) (pn : List (Addr × Obj)) (xe : Value → Shared → Prop), Takes (X.tr pn xe) W → PSs (X.tr pn xe) body (TSt g W m))
    (hsu : ∀ (a : Addr) (oe : Obj) (pn : List (Addr × Obj)), PSs (X.suite a ((a, oe) :: pn)) (b₀ :: suite) (TSt g (fun _ _ _ _ => False) ms)) (hms : ∀ σ S e σ' S', ms σ S ≠ .exc e σ' S')
    (hdb : (z == ("__debug__" : Str)) = false := by decide) :
    PS X (.Try body [.ExceptHandler (some (.Name z np)) none (b₀ :: suite) pos'] [] [] pos) (TSt g E (sTry ks m ms)) := by
  obtain ⟨C, hC⟩ := hz
  refine PS.imp (ps_try_only (c := .ref C) (tb := fun W => TSt g W m) (ts := fun _ _ _ => TSt g (fun _ _ _ _ => False) ms) (Wout := E) hs hf ⟨hgz, hdb, .inl hC⟩ tk (fun W pn xe tk' _ => hb W pn xe tk') (fun a oe _ _ pn _ _ => hsu a oe pn)) ?_
  rintro D σ H ⟨L, σd, S, rp, sl, ev⟩
  refine ⟨L, σd, S, rp, sl, ?_⟩
  unfold sTry at ev
  cases em : m σd S with
  | ok f S' =>
    rw [em] at ev
    exact ev
  | stuck => rw [em] at ev; exact ev.elim
  | exc e σ' S' =>
    rw [em] at ev
    dsimp only at ev
    split at ev
    · rename_i y ey
      split at ev
      · rename_i hl
        obtain ⟨A, B, hA, hB, hx⟩ := hks.get hl
        intro L' H' c x σ2 x1 r1 sl1 ex
        have hc : c = .ref A := by
          cases ex with
          | none q _ => rw [ey] at q; obtain ⟨A', h1, rfl⟩ := q; rw [← hmg, hA] at h1; cases h1; rfl
          | some q _ _ => rw [ey] at q; obtain ⟨A', h1, rfl⟩ := q; rw [← hmg, hA] at h1; cases h1; rfl
        subst hc
        rw [hC] at hB
        cases hB
        refine ⟨true, hx, fun _ a ha => ⟨L', σ', S', r1, sl1, ?_⟩, fun h => absurd h (by decide)⟩
        have ev1 := Ev.of x1 ev
        cases es : ms σ' S' with
        | ok f S2 => rw [es] at ev1; exact ev1
        | stuck => rw [es] at ev1; exact ev1.elim
        | exc e2 σ3 S3 => exact absurd es (hms _ _ _ _ _)
      · rename_i hl
        obtain ⟨A, B, hA, hB, hx⟩ := hks.get hl
        intro L' H' c x σ2 x1 r1 sl1 ex
        have hc : c = .ref A := by
          cases ex with
          | none q _ => rw [ey] at q; obtain ⟨A', h1, rfl⟩ := q; rw [← hmg, hA] at h1; cases h1; rfl
          | some q _ _ => rw [ey] at q; obtain ⟨A', h1, rfl⟩ := q; rw [← hmg, hA] at h1; cases h1; rfl
        subst hc
        rw [hC] at hB
        cases hB
        exact ⟨false, hx, fun h => absurd h (by decide), fun _ => ev L' H' _ x σ2 x1 r1 sl1 ex⟩
      · exact ev.elim
    · exact ev.elim
end
end DL
end
section
namespace DL
open PySem PySem.Spec PyProof.Rows L2
/-! ### xs[lo:hi:step] of a list -/
def pickIx (n : Nat) (lo hi st : Option Int) : List Nat := sliceRange (sliceBounds lo hi st n).1 (sliceBounds lo hi st n).2.1 (sliceBounds lo hi st n).2.2
def pickD {α : Type} (xs : List α) (lo hi st : Option Int) : List α := (pickIx xs.length lo hi st).filterMap (xs[·]?)
theorem paired_pick {α β : Type} {F : α → β → Prop} {xs : List α} {ys : List β} (r : Paired F xs ys) : ∀ idx : List Nat, Paired F (idx.filterMap (xs[·]?)) (idx.filterMap (ys[·]?))
  | [] => .nil
  | i :: idx => by
    rw [List.filterMap_cons, List.filterMap_cons]
    cases e : xs[i]? with
    | none =>
      have : ys[i]? = none := by
        rw [List.getElem?_eq_none_iff] at e ⊢
        rw [← Paired.len r]; exact e
      rw [this]
      exact paired_pick r idx
    | some x =>
      obtain ⟨y, ey, f⟩ := Paired.get r e
      rw [ey]
      exact .cons f (paired_pick r idx)
theorem dz_paired {K : PySem.W.Frag} {W : Addr → Prop} {H : Hp} : ∀ {ds : List PyData} {vs : List V}, DzAll K W H vs ds → Paired (fun d v => Dz K W H v d) ds vs
  | _, _, .nil => .nil
  | _, _, .cons a b => .cons a (dz_paired b)
theorem paired_dz {K : PySem.W.Frag} {W : Addr → Prop} {H : Hp} : ∀ {ds : List PyData} {vs : List V}, Paired (fun d v => Dz K W H v d) ds vs → DzAll K W H vs ds
  | _, _, .nil => .nil
  | _, _, .cons a b => .cons a (paired_dz b)
theorem pick_dz {K : PySem.W.Frag} {W : Addr → Prop} {H : Hp} {ds : List PyData} {vs : List V} (h : DzAll K W H vs ds) (lo hi st : Option Int) : DzAll K W H (pickD vs lo hi st) (pickD ds lo hi st) := by
  unfold pickD
  rw [h.len]
  exact paired_dz (paired_pick (dz_paired h) _)
theorem pick_vals {vs : List V} {us : List Value} (r : Vals vs us) (lo hi st : Option Int) : Vals (pickD vs lo hi st) (pickD us lo hi st) := by
  unfold pickD
  rw [r.length]
  exact paired_pick r _
theorem pick_arr (us : List Value) (lo hi st : Option Int) : slicePick us.toArray lo hi st = (pickD us lo hi st).toArray := by
  unfold slicePick pickD pickIx
  rw [List.size_toArray]
  congr 1
  congr 1
  funext i
  exact List.getElem?_toArray
theorem pick_len {α : Type} (xs : List α) (lo hi st : Option Int) : (pickD xs lo hi st).length ≤ xs.length := by
  have h := slicePick_size_le (xs.map fun _ => Value.none).toArray lo hi st
  rw [pick_arr, List.size_toArray, List.size_toArray, List.length_map] at h
  have e : ∀ (idx : List Nat), (idx.filterMap (xs[·]?)).length = (idx.filterMap ((xs.map fun _ => Value.none)[·]?)).length := by
    intro idx
    induction idx with
    | nil => rfl
    | cons i r ih =>
      rw [List.filterMap_cons, List.filterMap_cons, List.getElem?_map]
      cases xs[i]? with
      | none => exact ih
      | some x => simp only [Option.map_some, List.length_cons, ih]
  unfold pickD at h ⊢
  rw [List.length_map] at h
  rw [e]
  exact h
def tSlS (K : PySem.W.Frag) (te : TE) (tl th ts : TO) : TE := fun σ H Q => te σ H fun x H1 => tl σ H1 fun lo H2 => th σ H2 fun hi H3 => ts σ H3 fun st H4 => ∃ a xs, x = .ref a ∧ SqL K H4 a xs ∧ st ≠ some 0 ∧ ∀ p, H4 p = none → Q (.ref p) (upd H4 p (.lst (pickD xs lo hi st)))
section
variable {X : Cx} {g : G} {E : WX}
theorem pe_slS {e : Expr} {te : TE} {lo hi st : Expr} {tl th ts : TO} {p2 pos : Pos} (he : PE X e te) (hl : PO X (some lo) tl) (hh : PO X (some hi) th) (hs : PO X (some st) ts) : PE X (.Subscript e (.Slice (some lo) (some hi) (some st) p2) pos) (tSlS X.K te tl th ts) := by
  refine ⟨fun pins s σ H Q I h => ?_⟩
  refine Subscript_ (thn (he.run pins s σ H _ I h) fun v s1 ⟨x, H1, I1, r1, q1⟩ => ?_)
  refine wpAny_Slice (thn (hl.run pins s1 σ H1 _ I1 q1) fun vl s2 ⟨l, H2, I2, pl, q2⟩ => ?_)
  refine thn (hh.run pins s2 σ H2 _ I2 q2) fun vu s3 ⟨u, H3, I3, pu, q3⟩ => ?_
  refine thn (hs.run pins s3 σ H3 _ I3 q3) fun vs s4 ⟨o, H4, I4, ps, q4⟩ => ?_
  obtain ⟨a, xs, ex, hx, h0, q⟩ := q4
  subst ex
  cases r1
  have I5 : Inv X pins σ H4 { s4 with heap := s4.heap.push { cls := .type "slice", data := .fields #[vl, vu, vs] } } := I4.kept (t' := s4.toks) fun b ob q => Heap.get?_push_of_some _ q
  obtain ⟨its, r, ht, hz⟩ := I5.list hx
  have hlen := r.length
  show wpAny (model X.prog X.w) X.A (subscriptTail e (.Slice (some lo) (some hi) (some st) p2) (.ref a) (.ref s4.heap.objs.size)) (EP X pins σ Q) X.xe { s4 with heap := s4.heap.push { cls := .type "slice", data := .fields #[vl, vu, vs] } }
  refine tail_any (ops := [.ref a, .ref s4.heap.objs.size]) ht.isList.typeIs (PySem.slot_list_getitem.lookup) ?_ (by with_unfolding_all rfl)
  refine wpAny_getItem_list_slice ht.isList (Heap.IsSliceOf.new _ vl vu vs) pl pu ps h0 ?_ (by rw [List.size_toArray]; omega)
  rw [pick_arr]
  refine ⟨.ref _, _, I5.laid (t' := s4.toks) (o := .lst (pickD xs l u o)) (fun b ob q => Heap.get?_push_of_some _ q) (Nat.le_refl _) ?_, rfl, q _ (I5.hok.fresh (Nat.le_refl _))⟩
  exact ⟨Nat.le_trans (pick_len xs l u o) hz, _, 0, pick_vals r l u o, Heap.get?_push_size _ rfl⟩
variable {ma : DM D} {l u s : DM (Option Int)} {a : Expr} {pos : Pos}
def slSD (S : Sto) (d : D) (lo hi st : Option Int) : Out D := match asL S d with
  | some xs => match pdL xs with
    | some zs => if st = some 0 then .stuck else .ok (.lst (pickD zs lo hi st)) S
    | none => .stuck
  | none => .stuck
def eSliceS (m : DM D) (lo hi st : DM (Option Int)) : DM D := mBind m fun d => mBind lo fun l => mBind hi fun u => mBind st fun t => fun _ S => slSD S d l u t
theorem px_sliceS {lo hi st : Expr} {p2 : Pos} (ha : PE X a (T g E ma)) (hl : PO X (some lo) (TOd g E l)) (hu : PO X (some hi) (TOd g E u)) (hs : PO X (some st) (TOd g E s)) : PE X (.Subscript a (.Slice (some lo) (some hi) (some st) p2) pos) (T g E (eSliceS ma l u s)) :=
  PE.imp (pe_slS ha hl hu hs) fun σ H Q ⟨L, σd, S, rp, sl, ev⟩ => ⟨L, σd, S, rp, sl, ev.step fun d S1 L1 H1 x1 r1 ev1 v dn =>
    ⟨L1, σd, S1, r1, sl.ext rp x1, ev1.step fun lo S2 L2 H2 x2 r2 ev2 => ⟨L2, σd, S2, r2, (sl.ext rp x1).ext r1 x2, ev2.step fun hi S3 L3 H3 x3 r3 ev3 => ⟨L3, σd, S3, r3, ((sl.ext rp x1).ext r1 x2).ext r2 x3, ev3.step fun st S4 L4 H4 x4 r4 ev4 => by
      have n4 := ((dn.ext r1 x2).ext r2 x3).ext r3 x4
      unfold slSD at ev4
      split at ev4
      · rename_i xs ex
        split at ev4
        · rename_i zs ez
          split at ev4
          · exact ev4.elim
          · rename_i h0
            obtain ⟨p, vs, rfl, rd, dn'⟩ := asL_ok r4 n4 ex
            have z := dens_dz (pdL_eq ez ▸ dn')
            exact ⟨p, vs, rfl, .inl rd, h0, fin_lst r4 ev4 (pick_dz z _ _ _)⟩
        · exact ev4.elim
      · exact ev4.elim⟩⟩⟩⟩
end
end DL
end
section
/-! raise C(x), where class C(B): def __init__(self, p): B.__init__(self, '..'); self.p = p  (turned from the worked proof of an own error with a field) -/
namespace DLX
open PySem PySem.W PySem.Calls PyProof.Rows PySem.HandSPX
open L2 (defBody defScope defArgs)
/-- the text of __init__ -/
structure IniSc (st : Stmt) (qual Bs p m : Str) : Prop where
  bod : ∃ (j : Nat) (q1 q2 q3 q4 q5 q6 r1 r2 r3 r4 : Pos), defBody st = [Stmt.Expr (.Call (.Attribute (.Name Bs q1) "__init__" q2) [.Name "self" q3, .Constant (.str m) j q4] [] q5) q6, Stmt.Assign [.Attribute (.Name "self" r1) p r2] (.Name p r3) r4] ∧
    ∀ L a cd, ∃ pl : Sem Bool, eval (.Call (.Attribute (.Name Bs q1) "__init__" q2) [.Name "self" q3, .Constant (.str m) j q4] [] q5) (envOfC qual (defScope st) L a cd) = (do
      let ov ← eval (.Name Bs q1) (envOfC qual (defScope st) L a cd)
      standAt q2.atName
      let (f, first) ← holding [ov] (getMethod ov "__init__" pl)
      callWith q5 f first (backTo q5 (starEach [.Name "self" q3, .Constant (.str m) j q4] (envOfC qual (defScope st) L a cd))) (backToKw q5 (keywordEach [] (envOfC qual (defScope st) L a cd))))
  k1 : ∀ L a cd, (envOfC qual (defScope st) L a cd).kindOf "self" = some .local
  k2 : ∀ L a cd, (envOfC qual (defScope st) L a cd).kindOf p = some .local
  k3 : ∀ L a cd, (envOfC qual (defScope st) L a cd).kindOf Bs = some .globalImplicit
  b1 : ∀ L a cd x v, bindL (envOfC qual (defScope st) L a cd).kindOf [("self", x), (p, v)] (fun _ => none) "self" = some x
  b2 : ∀ L a cd x v, bindL (envOfC qual (defScope st) L a cd).kindOf [("self", x), (p, v)] (fun _ => none) p = some v
  kd : ∀ x v : Value, (([("self", x), (p, v)] : List (Str × Value)).all fun y => (defScope st).names.lookup y.1 == some .local || (defScope st).names.lookup y.1 == some .cell) = true
  bt : ∀ (s : Shared) kV doc pm an cdv ct x v, BindsTo s (fnOf "__init__" qual (defArgs st) (defBody st) (defScope st) .none kV doc pm an cdv ct) ⟨[x, v], []⟩ [("self", x), (p, v)]
  ia : ∀ L a cd, interactive (envOfC qual (defScope st) L a cd) = false
  co : (defScope st).isCoroutine = false
  gn : (defScope st).isGenerator = false
  fk : (defScope st).kind = .function
  pd : (p == ("__debug__" : Str)) = false
  bd : (Bs == ("__debug__" : Str)) = false
  bn : Bs ≠ "__name__"
/-- what the written part says of C and of its __init__ -/
structure IniTxt (K : Frag) (mg : Str → Option Value) (B newId initId : String) (bmB : List Value) (Bs x p m : Str) (st : Stmt) (C fI : Addr) : Prop where
  base : ExcBaseFacts B newId initId bmB
  store : StoreFacts B bmB "object.__setattr__" "object"
  ty : typeOf (.type B) = pure (.type "type")
  stub : Manifest.isStub B = false
  boot : bootBuiltins Bs = some (.type B)
  hand : handedIn (.builtin initId) = true
  sc : IniSc st (x ++ ".__init__") Bs p m
  gC : mg x = some (.ref C)
  gB : mg Bs = none
  q : excInitIn K C bmB newId = true
  ov : excOver K C bmB = true
  sa : findIn K (.ref C) "__setattr__" = some (some (.builtin "object.__setattr__"))
  tk : takerIn K C p = some none
  hd : hasDictIn K C = true
  iC : findIn K (.ref C) "__init__" = some (some (.ref fI))
  tC : typeIn K (.ref fI) = some (.type "function")
  kC : keepIn K (.ref C) = true
  exC : subIn K (.ref C) (.type "BaseException") = some true
  tyC : typeIn K (.ref C) = some (.type "type")
  vB : findCls K (.type B) (.type "type") "__init__" = some (.val (.builtin initId))
  fn : ∃ fd, L2.Fun K "__init__" (x ++ ".__init__") st fI fd
theorem one_size (v : Value) : [v].length ≤ sizeLine := by
  rw [sizeLine_eq]
  exact (by decide : 1 ≤ 16777216)
theorem ldC {M : Model} {s : Shared} {name : Str} {scope : Scope} {L a : Addr} {cd : Value} {m : Str → Option Value} {x : Str} {pos : Pos} {v : Value} {Q : Value → Shared → Prop} {A : Around} {E : Value → Shared → Prop} (hn : s.heap.Ns L m) (hv : m x = some v) (h : Q v s)
    (hk : scope.kind = .function) (hl : (envOfC name scope L a cd).kindOf x = some .local) (hd : (x == ("__debug__" : Str)) = false) :
    wpAny M A (eval (.Name x pos) (envOfC name scope L a cd)) Q E s := wpAny_Name (wpAny_loadName_local hk hl hn hv h) hd
/-- what __init__ leaves of a fresh exception at x -/
structure InitEnd (h h' : Heap) (x C dx : Addr) (p : Str) (v : Value) : Prop where
  keep : ∀ b o, b ≠ x → h.get? b = some o → h'.get? b = some o
  obj : ∃ t1, h'.get? x = some { cls := .ref C, dict := some dx, data := .fields #[.ref t1, .none, .none, .none, .bool false, .none] }
  dbig : h.objs.size ≤ dx
  dne : dx ≠ x
  ns : h'.Ns1 dx (fun y => if y = p then some v else none)
/-- a made one -/
structure OwnMade (h h' : Heap) (e C d : Addr) (p : Str) (v : Value) : Prop where
  keep : ∀ b o, h.get? b = some o → h'.get? b = some o
  new : h.objs.size ≤ e
  obj : ∃ oe vs, h'.get? e = some oe ∧ oe.cls = .ref C ∧ oe.dict = some d ∧ oe.data = .fields vs ∧ vs[1]? = some .none
  dbig : h.objs.size ≤ d
  dne : d ≠ e
  ns : h'.Ns1 d (fun y => if y = p then some v else none)
section
variable {prog : Program} {w : World} {A : Around} {E : Value → Shared → Prop} {R : Result → Shared → Prop} {s : Shared} {K : Frag} {mg : Str → Option Value} {B newId initId : String} {bmB : List Value} {Bs x p m : Str} {st : Stmt} {C fI : Addr}
theorem own_init (T : IniTxt K mg B newId initId bmB Bs x p m st C fI) {e t0 : Addr} {v : Value} (X : K.In s.heap) (hlim : s.heap.NoLimit) (hG : s.heap.Ns mainGlobals mg) (hB : ∃ mb, s.heap.Ns builtinsNs mb ∧ ∀ y : Str, y ≠ "__name__" → mb y = bootBuiltins y)
    (hx : s.heap.get? e = some (excO C t0)) (hnx : K.lookup e = none) (hroom : A.depth < recursionLimit)
    (hq : ∀ h' tk dx, InitEnd s.heap h' e C dx p v → R (.ok (.ret .none)) { s with heap := h', toks := tk }) :
    codeAny (model prog w) A (.call (.ref fI) ⟨[.ref e, v], []⟩) R s := by
  obtain ⟨fd, ⟨oc, od, kV, doc, pm, an, cdv, ct, osl, rfl, ho, hcd⟩, _⟩ := T.fn
  obtain ⟨j, q1, q2, q3, q4, q5, q6, r1, r2, r3, r4, hbod, hev⟩ := T.sc.bod
  refine Att.call_fn (binds := [("self", .ref e), (p, v)]) X hlim ho hcd hroom (T.sc.bt _ _ _ _ _ _ _ _ _) (T.sc.kd _ _) (fun s₁ IC => ?_) T.sc.co T.sc.gn T.sc.fk
  obtain ⟨h₁, tk₁, rfl⟩ := IC.toInCall.same
  have k : ∀ b o, s.heap.get? b = some o → h₁.get? b = some o := IC.toInCall.keep
  have hn := IC.toInCall.ns
  have hxL : s.heap.objs.size ≠ e := Nat.ne_of_gt (Heap.lt_size hx)
  have X₁ : K.In h₁ := X.keeps k
  have hx₁ := k _ _ hx
  have hG₁ := hG.keeps k
  obtain ⟨mb, hB1, hB2⟩ := hB
  have hB₁ := hB1.keeps k
  have Fr₁ : Fr s.heap s.heap.objs.size h₁ _ := ⟨hn, k, Nat.le_refl _⟩
  rw [hbod]
  -- B.__init__(self, '..')
  obtain ⟨pl, hev⟩ := hev s.heap.objs.size fI cdv
  obtain ⟨nm, N, qn, bs, bm, hdct, sn, sub, ab, col, dd, k0, k1, k2, k3, k5, hC, hT⟩ := excInit_of X₁ T.q
  refine wpAny_execs_cons (wpAny_Expr (methodCall_KW (Name_function_global T.sc.fk (T.sc.k3 _ _ _) (loadGlobal_builtin (mg := mg) (mb := mb) hG₁ T.gB hB₁ ((hB2 _ T.sc.bn).trans T.boot) ?_) T.sc.bd) hev) (T.sc.ia _ _ _))
  refine method_type Fr₁ X T.ty T.stub T.vB T.hand ?_
  show wpAny _ _ (callWith q5 (Value.builtin initId) [] (backTo q5 (starEach [.Name "self" q3, .Constant (.str m) j q4] _)) []) _ _ _
  refine callWith_method1 ?_
  show wpAny _ _ (spliced [(false, eval (.Name "self" q3) _), (false, eval (.Constant (.str m) j q4) _)]) _ _ _
  refine spliced_cons (ldC (v := .ref e) hn (T.sc.b1 _ _ _ _ _) ?_ T.sc.fk (T.sc.k1 _ _ _) (by decide))
  refine spliced_cons (Constant_str (k := j) (pos := q4) ?_)
  refine spliced_nil ?_
  refine wpAny_call (init_base T.base hT hC hx₁ (one_size _) fun h' t1 kk hx' => ?_)
  show wpAny _ _ (execs _ _) _ _ _
  have k' : ∀ b o, b ≠ e → s.heap.get? b = some o → h'.get? b = some o := fun b o hb z => kk b o hb (k b o z)
  have hn' : h'.Ns s.heap.objs.size (bindL (envOfC (x ++ ".__init__") (defScope st) s.heap.objs.size fI cdv).kindOf [("self", .ref e), (p, v)] fun _ => none) := by
    obtain ⟨o, es, ep, z, r⟩ := hn
    exact ⟨o, es, ep, kk _ _ hxL z, r⟩
  have X' : K.In h' := fun a o z => k' a o (fun q => by rw [q, hnx] at z; cases z) (X a o z)
  -- self.p = p
  refine wpAny_execs_cons (plainObj_wpAny_Assign_Attribute ?_)
  refine ldC (v := v) hn' (T.sc.b2 _ _ _ _ _) (ldC (v := .ref e) hn' (T.sc.b1 _ _ _ _ _) ?_ T.sc.fk (T.sc.k1 _ _ _) (by decide)) T.sc.fk (T.sc.k2 _ _ _) T.sc.pd
  have IA : InstAt h' e (excO C t1) C none := ⟨hx', rfl, rfl, trivial⟩
  refine set_plain X' IA T.sa ?_
  refine osa_openX (od := none) T.store X' IA T.ov T.tk fun b => ?_
  obtain ⟨cd, hc, hd'⟩ := any_some T.hd
  refine wpAny_bind (wpAny_pure (wpAny_bind (instanceDict_exc hx' (looks_clsIn X' hc) hd' ?_)))
  have hes : e ≠ h'.objs.size := Nat.ne_of_lt (Heap.lt_size hx')
  refine store_in_new (dx := h'.objs.size) ?_ fun h2 tk2 hn2 hs2 => ?_
  · exact ⟨_, #[], _, (Heap.get?_update_ne _ _ _ _ hes.symm).trans (Heap.get?_push_at rfl rfl), rfl, fun e he => absurd he (by simp), fun _ => rfl⟩
  · have kk2 : ∀ b o, b ≠ e → h'.get? b = some o → h2.get? b = some o := fun b o hb ho =>
      (hs2.2 b (Nat.ne_of_lt (Heap.lt_size ho))).trans ((Heap.get?_update_ne _ _ _ _ hb).trans (Heap.get?_push_of_some _ ho))
    have hx2 : h2.get? e = some { cls := .ref C, dict := some h'.objs.size, data := .fields #[.ref t1, .none, .none, .none, .bool false, .none] } :=
      (hs2.2 e hes).trans (Heap.get?_update_self _ (Heap.get?_push_of_some _ hx') rfl)
    show wpAny _ _ (execs _ _) _ _ _
    refine wpAny_execs_nil (hq h2 tk2 h'.objs.size ⟨fun b o hb z => kk2 b o hb (k' b o hb z), ⟨t1, hx2⟩, ?_, hes.symm, hn2⟩)
    exact Nat.le_of_lt hn'.lt
theorem own_made (T : IniTxt K mg B newId initId bmB Bs x p m st C fI) {v : Value} (X : K.In s.heap) (hlim : s.heap.NoLimit) (hG : s.heap.Ns mainGlobals mg) (hB : ∃ mb, s.heap.Ns builtinsNs mb ∧ ∀ y : Str, y ≠ "__name__" → mb y = bootBuiltins y) (hroom : A.depth + 1 < recursionLimit)
    (hq : ∀ h' tk e d, OwnMade s.heap h' e C d p v → R (.ok (.ret (.ref e))) { s with heap := h', toks := tk }) :
    codeAny (model prog w) A (.call (.ref C) ⟨[v], []⟩) R s := by
  obtain ⟨nm, N, qn, bs, bm, hdct, sn, sub, ab, col, dd, k0, k1, k2, k3, k5, hC, hT⟩ := excInit_of X T.q
  obtain ⟨hp, g, dr, tk, os⟩ := s
  have k : ∀ b o, hp.get? b = some o → ((hp.push (kdv_tup [v])).push (excO C hp.objs.size)).get? b = some o := fun b o e => Heap.get?_push_of_some _ (Heap.get?_push_of_some _ e)
  have hget : ((hp.push (kdv_tup [v])).push (excO C hp.objs.size)).get? (hp.objs.size + 1) = some (excO C hp.objs.size) := by heap_get
  have hnx : K.lookup (hp.objs.size + 1) = none := by
    cases e : K.lookup (hp.objs.size + 1) with
    | none => rfl
    | some o =>
      have z : hp.get? (hp.objs.size + 1) = some o := X _ _ e
      exact absurd (Nat.lt_of_succ_lt (Heap.lt_size z)) (Nat.lt_irrefl _)
  refine call_own T.base hT hC (looks_findIn X T.iC) (fun self => bind_fn X self T.tC) (one_size v) ?_
  refine own_init (s := ⟨(hp.push (kdv_tup [v])).push (excO C hp.objs.size), g, dr, tk, os⟩) T (X.keeps k) (hlim.keeps k) (hG.keeps k) (let ⟨mb, h1, h2⟩ := hB; ⟨mb, h1.keeps k, h2⟩) hget hnx ?_ fun h' tk' dx ⟨k', ⟨t1, hx⟩, dn, dne, hns⟩ => ?_
  · show A.depth + 1 < recursionLimit
    exact hroom
  · have old : ∀ b o, hp.get? b = some o → h'.get? b = some o := fun b o e => k' b o (Nat.ne_of_lt (Nat.lt_succ_of_lt (Heap.lt_size e))) (k b o e)
    have z : hp.objs.size + 1 + 1 ≤ dx := by
      first
        | (simpa only [Heap.size_push] using dn)
        | exact dn
        | (have q := dn; rw [Heap.size_push, Heap.size_push] at q; exact q)
    exact ⟨rfl, hq h' tk' (hp.objs.size + 1) dx ⟨old, Nat.le_succ _, ⟨_, _, hx, rfl, rfl, rfl, rfl⟩, Nat.le_trans (Nat.le_trans (Nat.le_succ _) (Nat.le_succ _)) z, dne, hns⟩⟩
end
end DLX
namespace DLX
open PySem PySem.Spec PyProof.Rows L2
theorem relO_one {v : V} {v' : Value} (r : RelV v v') (p f : Str) : RelO (List.lookup f [(p, v)]) (if f = p then some v' else none) := by
  by_cases hw : f = p
  · subst hw
    rw [if_pos rfl]
    have q : List.lookup f [(f, v)] = some v := by simp [List.lookup]
    rw [q]
    exact r
  · rw [if_neg hw]
    have qw : (f == p) = false := by simpa using hw
    have q2 : List.lookup f [(p, v)] = none := by simp [List.lookup, qw]
    rw [q2]
    trivial
section
variable {X : Cx} {B newId initId : String} {bmB : List Value} {Bs x p m : Str} {st : Stmt} {C fI : Addr}
/-- C(e) -/
def tMkI (C : Addr) (p : Str) (ta : TA) : L2.St → Hp → XK → Prop := fun σ H Q => ta σ H fun vs H1 => ∃ v, vs = [v] ∧ ∀ d, H1 d = none → Q (.ref C) (some d) (upd H1 d (.xd [(p, v)]))
theorem pmk_ini {a : Expr} {ta : TA} {pos0 pos : Pos} {k : Nat} (T : IniTxt X.K X.mg B newId initId bmB Bs x p m st C fI) (hr : Room k X.A) (ha : PA X [a] ta) (hg : Gl X x) (hdb : (x == ("__debug__" : Str)) = false)
    (he : starEach (a :: []) X.env = (false, eval a X.env) :: starEach [] X.env := by rfl) (hpl : (backTo pos (starEach [] X.env)).any (·.1) = false := by rfl) :
    PMk X (.Call (.Name x pos0) [a] [] pos) (tMkI C p ta) := by
  intro pins s σ H Q I h
  refine wpAny_Call_Name_kw (ld_glob I hg T.gC ?_ hdb)
  refine PySem.W.callWith_K (h₀ := X.base) I.ok.mod.kin T.kC (thn (ha.run pos pins s σ H _ I h) fun us s1 hh => ?_) he hpl
  obtain ⟨vs, H1, I1, r1, v, ev, q1⟩ := hh
  subst ev
  refine ⟨I1.kIn, ?_⟩
  cases r1 with
  | cons rv rn =>
    rename_i v' us'
    cases rn
    show wpAny _ _ (call (.ref C) [v']) _ _ _
    have hlim := I1.nolimit
    have hG := I1.mod.glob.keeps I1.bk
    have hB : ∃ mb, s1.heap.Ns builtinsNs mb ∧ ∀ y : Str, y ≠ "__name__" → mb y = bootBuiltins y := let ⟨mb, h1, h2⟩ := I1.mod.blt; ⟨mb, h1.keeps I1.bk, h2⟩
    obtain ⟨hp, g, dr, tk, os⟩ := s1
    refine wpAny_call (own_made T I1.kIn hlim hG hB (by have := hr.dp; omega) fun h' tk' e d M => ?_)
    show MkP X pins σ Q (.ref e) ⟨h', g, dr, tk', os⟩
    obtain ⟨oe, fv, hoe, hc, hd, hdat, h1⟩ := M.obj
    have hns := M.ns
    obtain ⟨G', g1, g2⟩ := restrict h' fun b => decide (b ≠ e)
    have gk : ∀ b, b ≠ e → G'.get? b = h'.get? b := fun b hb => g1 b (decide_eq_true hb)
    have ge : G'.get? e = none := g2 e (by simp)
    have old : ∀ b o, hp.get? b = some o → G'.get? b = some o := fun b o q => (gk b (Nat.ne_of_lt (Nat.lt_of_lt_of_le (Heap.lt_size q) M.new))).trans (M.keep b o q)
    have ob : ObjOk X.prog X.w (upd H1 d (.xd [(p, v)])) G' d (.xd [(p, v)]) :=
      ⟨_, hns.at (fun o q => (gk d M.dne).trans q), fun f => relO_one rv p f⟩
    have J : Inv X pins σ (upd H1 d (.xd [(p, v)])) ⟨G', g, dr, tk', os⟩ := I1.laid (t' := tk') old M.dbig ob
    refine ⟨e, oe, fv, ⟨G', g, dr, tk', os⟩, _, .ref C, some d, rfl, J, fun b o q => ?_, ge, hoe, ⟨hc, hd⟩, hdat, h1, ?_, rfl, I1.bare, raises_own T.exC T.tyC, q1 d (I1.hok.fresh M.dbig)⟩
    · by_cases hb : b = e
      · have q' : G'.get? b = some o := q
        rw [hb, ge] at q'; cases q'
      · exact (gk b hb).symm.trans q
    · rw [upd_ne (Ne.symm M.dne)]
      exact I1.hok.fresh M.new
end
end DLX
namespace DL
open PySem PySem.Spec PyProof.Rows L2
section
variable {X : Cx} {g : G} {E : WX}
/-- raise C(e): C keeps e as its p -/
def sRaiseF (x p : Str) (m : DM D) : DM Fl := mBind m fun d σ S => .exc ⟨.own x, [(p, d)]⟩ σ S
theorem qs_raiseF {B newId initId : String} {bmB : List Value} {Bs x p m : Str} {st : Stmt} {a : Expr} {ma : DM D} {pos0 pos pos' : Pos} {k : Nat} (hmg : X.mg = g.mg) (hc : X.calm = true) (tk : Takes X E)
    (hT : ∃ C fI, DLX.IniTxt X.K X.mg B newId initId bmB Bs x p m st C fI) (hr : Room k X.A) (ha : PE X a (T g E ma)) (hg : Gl X x) (hdb : (x == ("__debug__" : Str)) = false := by decide)
    (he : starEach (a :: []) X.env = (false, eval a X.env) :: starEach [] X.env := by rfl) (hpl : (backTo pos (starEach [] X.env)).any (·.1) = false := by rfl) :
    PS X (.Raise (some (.Call (.Name x pos0) [a] [] pos)) none pos') (TSt g E (sRaiseF x p ma)) := by
  obtain ⟨C, fI, T⟩ := hT
  exact PS.imp (ps_raise hc tk (DLX.pmk_ini T hr (pa_cons ha pa_nil he) hg hdb he hpl)) fun D σ H ⟨L, σd, S, rp, sl, ev⟩ => ⟨L, σd, S, rp, sl, ev.step fun d S' L' H' x1 r' ev' v dn => by
    refine ⟨v, rfl, fun dd hd => ?_⟩
    have x2 : Ext g L' H' L' (upd H' dd (.xd [(p, v)])) := Ext.new1 hd
    exact ev' L' _ (.ref C) (some dd) σ x2 (r'.new1 hd) ((sl.ext rp x1).ext r' x2) (.some ⟨C, hmg ▸ T.gC, rfl⟩ upd_same (.cons ⟨rfl, dn.ext r' x2⟩ .nil))⟩
end
end DL
end
section
/-! try: .. with several clauses, each with a name or without -/
namespace L2
open PySem PySem.Spec PyProof.Rows
/-- a clause: the class that it names, the slot of its name, what its suite asks -/
structure HdS where
  c : Value
  nm : Option Nat
  ts : Addr → Value → Option Addr → TS
/-- the ends of a suite behind which the slot i is empty -/
def offEnds (i : Nat) (D : Ends) : Ends := { nx := fun σ' H' => D.nx (σ'.set i none) H', rt := D.rt, bk := fun σ' H' => D.bk (σ'.set i none) H', ct := fun σ' H' => D.ct (σ'.set i none) H' }
def wHds (K : PySem.W.Frag) (Wout : WX) (D : Ends) : List HdS → WX
  | [] => Wout
  | h :: r => fun cls d σ H => ∃ b, PySem.W.exmOne K cls h.c = some b ∧
    (b = true → ∀ a, H a = none → match h.nm with
      | none => h.ts a cls d D σ H
      | some i => i < σ.length → h.ts a cls d (offEnds i D) (σ.set i (some (.ref a))) H) ∧
    (b = false → wHds K Wout D r cls d σ H)
inductive HdsX (X : Cx) : List ExceptHandler → List HdS → Prop
  | nil : HdsX X [] []
  | cons {x : Str} {c : Value} {ts : Addr → Value → Option Addr → TS} {b₀ : Stmt} {suite : List Stmt} {np pos' : Pos} {hds : List ExceptHandler} {l : List HdS} (hc : Names X x c)
      (hsu : ∀ (a : Addr) (oe : Obj) (cls : Value) (d : Option Addr) (pn : List (Addr × Obj)), Zc cls d oe → (∃ vs, oe.data = .fields vs) → PSs (X.suite a ((a, oe) :: pn)) (b₀ :: suite) (ts a cls d)) (r : HdsX X hds l) :
      HdsX X (.ExceptHandler (some (.Name x np)) none (b₀ :: suite) pos' :: hds) (⟨c, none, ts⟩ :: l)
  | named {x n : Str} {i : Nat} {c : Value} {ts : Addr → Value → Option Addr → TS} {b₀ : Stmt} {suite : List Stmt} {np pos' : Pos} {hds : List ExceptHandler} {l : List HdS} (hi : X.N[i]? = some n) (hln : X.env.kindOf n = some .local) (hc : Names X x c)
      (hsu : ∀ (a : Addr) (oe : Obj) (cls : Value) (d : Option Addr) (pn : List (Addr × Obj)), Zc cls d oe → (∃ vs, oe.data = .fields vs) → PSs (X.suite a ((a, oe) :: pn)) (b₀ :: suite) (ts a cls d)) (r : HdsX X hds l) :
      HdsX X (.ExceptHandler (some (.Name x np)) (some n) (b₀ :: suite) pos' :: hds) (⟨c, some i, ts⟩ :: l)
section
variable {X : Cx} {body : List Stmt} {h₀ : ExceptHandler} {hds : List ExceptHandler} {l : List HdS} {pos : Pos} {tb : WX → TS} {Wout : WX}
theorem ps_tryH (hs : X.stack = X.env :: X.outer) (hf : X.env.frame = some X.env.locals) (hN : X.N.Nodup) (tk : Takes X Wout)
    (hb : ∀ (W : WX) (pn : List (Addr × Obj)) (xe : Value → Shared → Prop), Takes (X.tr pn xe) W → PassesOwn (model X.prog X.w) X.A X.env xe → PSs (X.tr pn xe) body (tb W))
    (hh : HdsX X (h₀ :: hds) l) : PS X (.Try body (h₀ :: hds) [] [] pos) (fun D σ H => tb (wHds X.K Wout D l) D σ H) := by
  refine ⟨fun pins s σ H D I h => ?_⟩
  have ok := I.ok
  have hfr : X.A.frames = some (X.env :: X.outer) := by rw [ok.frames, hs]
  refine wpAny_Try_except ?_
  refine wpAny_mono ((hb (wHds X.K Wout D l) (X.pn ++ pins) _ (fun u s' xx => ?_) PassesOwn.looking).run [] s σ H D (I.toTry _) h) (fun f s1 hsp => ?_) (fun e s1 he => he)
  · -- an exception of the body
    obtain ⟨a, B, sI, pins', σ', H', cls, d, rfl, J', nb, up, sky, na, os, ag, w⟩ := xx
    have J : Inv X pins σ' H' sI := J'.ofTry ok
    have sky' : Sky B (X.env :: X.outer) a (Zc cls d) X.env.locals s'.heap := by rw [← hs]; exact sky
    show wpAny (model X.prog X.w) X.A (noteFrame (.ref a) X.env) _ _ _
    refine Sky.land Zc.steady hfr hf sky' fun h3 fl3 up3 => ?_
    have J3 : Inv X pins σ' H' { s' with heap := h3 } := J.landed nb fl3.1 (up.trans up3) os ag
    obtain ⟨oe3, vs3, he3, hz3, hd3⟩ := fl3.there
    have nfr : a ∉ frs (X.env :: X.outer) := fun hm => by
      obtain ⟨_, o', e', hnf⟩ := fl3.2.2.1.mem hm
      rw [he3] at e'
      cases e'
      exact hnf _ hd3
    have nL : a ≠ X.env.locals := fun z => nfr (List.mem_filterMap.mpr ⟨X.env, List.mem_cons_self, by rw [hf, z]⟩)
    have nF : a ∉ X.fs := fun hm => by
      obtain ⟨e, he, q⟩ := List.mem_filterMap.mp hm
      exact nfr (List.mem_filterMap.mpr ⟨e, List.mem_cons_of_mem _ he, q⟩)
    have S3 := J3.suite he3 hd3 na nL nF
    have LT : PySem.W.Looks (model X.prog X.w) h3 (typeOf (.ref a)) cls := fun A Q E s k q => wpAny_typeOf_ref (k _ _ he3) (by rw [hz3.1]; exact q)
    have test : ∀ {x : Str} {c : Value} {np : Pos} {Q : Value → Shared → Prop} {E : Value → Shared → Prop}, Names X x c → Q c { s' with heap := h3 } → wpAny (model X.prog X.w) (X.A.mark (some (.ref a))) (eval (.Name x np) X.env) Q E { s' with heap := h3 } := fun {x c np Q E} hc q => by
      obtain ⟨hg, hdbg, hm | ⟨hm, hv, hnn⟩⟩ := hc
      · exact ld_glob (X := X.suite a ((a, oe3) :: (X.pn ++ pins))) S3 hg hm q hdbg
      · exact ld_blt (X := X.suite a ((a, oe3) :: (X.pn ++ pins))) S3 hg hm hv q hnn hdbg
    have go : ∀ {hds' : List ExceptHandler} {l' : List HdS}, HdsX X hds' l' → wHds X.K Wout D l' cls d σ' H' →
        wpAny (model X.prog X.w) X.A (handleBy (.ref a) X.env hds') (SP X pins D) X.xe { s' with heap := h3 } := by
      intro hds' l' hk
      induction hk with
      | nil =>
        intro w
        refine wpAny_handleBy_nil ?_
        obtain ⟨k1, k2, k3, oe, vs, T, oT, ts', he, hz, hd, h1, hr⟩ := id fl3
        unfold PySem.passOn
        refine wpAny_bind (wpAny_field he hd h1 ?_)
        rw [if_neg (show ¬ ((Value.ref T == Value.none) = true) from by simp)]
        have fin : wpAny (model X.prog X.w) X.A (setFlight (.ref a) X.env.frame) (fun _ s4 => wpAny (model X.prog X.w) X.A (throw (.ref a) : Sem Flow) (SP X pins D) X.xe s4) X.xe { s' with heap := h3 } := by
          rw [hf]
          refine HandSPX.setFlight_upZ fl3 fun h4 hh4 up4 => wpAny_throw (tk _ _ ?_)
          exact ⟨a, B, sI, pins, σ', H', cls, d, rfl, J, nb, (up.trans up3).trans up4, .inr (.inr (by rw [hs]; exact hh4)), na, os, ag, w⟩
        first
          | exact wpAny_bind (wpAny_pure (wpAny_bind fin))
          | exact wpAny_bind fin
      | @cons x c ts b₀ suite np pos' hds2 l2 hc hsu r ih =>
        intro w
        obtain ⟨b, hb1, hyes, hno⟩ := w
        have LM := PySem.W.exm_one (M := model X.prog X.w) (J3.kIn) LT hb1
        refine wpAny_handleBy_cons (codeAny_handlers_test (test hc (LM.here ?_))) (by intro q; cases q)
        cases b with
        | true =>
          refine codeAny_handlers_suite (HandSPX.lands_againZ fl3 fun h4 fl4 up4 => ?_)
          have J4 : Inv X pins σ' H' { s' with heap := h4 } := J.landed nb fl4.1 ((up.trans up3).trans up4) os ag
          obtain ⟨oe4, vs4, he4, hz4, hd4⟩ := fl4.there
          have S4 := J4.suite he4 hd4 na nL nF
          refine wpAny_mono ((hsu a oe4 cls d (X.pn ++ pins) hz4 ⟨_, hd4⟩).run [] _ _ H' _ S4 (hyes rfl a na)) (fun f s6 hsp => ?_) (fun _ _ z => False.elim z)
          cases f with
          | ret u =>
            obtain ⟨v6, σ6, H6, S6, r6, q6⟩ := hsp
            exact ⟨_, _, _, S6.unsuite ok, r6, q6⟩
          | _ =>
            obtain ⟨σ6, H6, S6, q6⟩ := hsp
            exact ⟨_, _, S6.unsuite ok, q6⟩
        | false =>
          show wpAny _ X.A (handleBy (.ref a) X.env hds2) _ _ _
          exact ih (hno rfl)
      | @named x n i c ts b₀ suite np pos' hds2 l2 hi hln hc hsu r ih =>
        intro w
        obtain ⟨b, hb1, hyes, hno⟩ := w
        have LM := PySem.W.exm_one (M := model X.prog X.w) (J3.kIn) LT hb1
        refine wpAny_handleBy_cons (codeAny_handlers_test (test hc (LM.here ?_))) (by intro q; cases q)
        cases b with
        | true =>
          refine codeAny_handlers_suite_as (HandSPX.lands_againZ fl3 fun h4 fl4 up4 => ?_)
          have J4 : Inv X pins σ' H' { s' with heap := h4 } := J.landed nb fl4.1 ((up.trans up3).trans up4) os ag
          obtain ⟨oe4, vs4, he4, hz4, hd4⟩ := fl4.there
          have S4 := J4.suite he4 hd4 na nL nF
          refine store_ok (X := X.suite a ((a, oe4) :: (X.pn ++ pins))) (v := .ref a) S4 hN hi (.inl hln) rfl (fun s5 S5 => ?_) (.inr hln)
          refine wpAny_mono ((hsu a oe4 cls d (X.pn ++ pins) hz4 ⟨_, hd4⟩).run [] s5 _ H' _ S5 (hyes rfl a na (by rw [J.len]; exact (List.getElem?_eq_some_iff.mp hi).1))) (fun f s6 hsp => ?_) (fun _ _ z => False.elim z)
          cases f with
          | ret u =>
            obtain ⟨v6, σ6, H6, S6, r6, q6⟩ := hsp
            exact gone_ok (S6.unsuite ok) hN hi hln fun s7 J7 => ⟨_, _, _, J7, r6, q6⟩
          | _ =>
            obtain ⟨σ6, H6, S6, q6⟩ := hsp
            exact gone_ok (S6.unsuite ok) hN hi hln fun s7 J7 => ⟨_, _, J7, q6⟩
        | false =>
          show wpAny _ X.A (handleBy (.ref a) X.env hds2) _ _ _
          exact ih (hno rfl)
    exact go hh w
  · cases f with
    | next =>
      obtain ⟨σ', H', J', q⟩ := hsp
      exact wpAny_execs_nil ⟨σ', H', J'.ofTry ok, q⟩
    | ret u =>
      obtain ⟨v, σ', H', J', r, q⟩ := hsp
      exact ⟨v, σ', H', J'.ofTry ok, r, q⟩
    | _ =>
      obtain ⟨σ', H', J', q⟩ := hsp
      exact ⟨σ', H', J'.ofTry ok, q⟩
end
end L2
end
section
namespace DL
open PySem PySem.Spec PyProof.Rows L2
/-! ### try: body, several clauses -/
/-- a clause as data: which classes it catches, what its suite does with the exception -/
structure HSp where
  ks : List (Str × Bool)
  run : Exn → DM Fl
def goH : List HSp → Exn → DM Fl
  | [] => fun e σ S => .exc e σ S
  | h :: r => fun e σ S => match e.cls with
    | .own y => match h.ks.lookup y with
      | some true => (match h.run e σ S with
        | .ok f S' => .ok f S'
        | _ => .stuck)
      | some false => goH r e σ S
      | none => .stuck
    | _ => .stuck
def sTryH (hs : List HSp) (m : DM Fl) : DM Fl := fun σ S => match m σ S with
  | .exc e σ' S' => goH hs e σ' S'
  | o => o
abbrev noW : WX := fun _ _ _ _ => False
structure HOk (X : Cx) (g : G) (h : HSp) (k : L2.HdS) : Prop where
  cls : ∀ (y : Str) (b : Bool), h.ks.lookup y = some b → ∃ A, X.mg y = some (.ref A) ∧ PySem.W.exmOne X.K (.ref A) k.c = some b
  run : ∀ (e : Exn) (D : Ends) (L : List Addr) (H : Hp) (S : Sto) (σd : Sl) (σ : St) (cls : Value) (d : Option Addr) (a : Addr), RepS g L S H → SlDen g L H σd σ → ExDen g L H e cls d → H a = none → Ev g noW L H (h.run e σd S) (PF g D) → (∃ f S', h.run e σd S = .ok f S') →
    match k.nm with
    | none => k.ts a cls d D σ H
    | some i => i < σ.length → k.ts a cls d (offEnds i D) (σ.set i (some (.ref a))) H
inductive HsOk (X : Cx) (g : G) : List HSp → List L2.HdS → Prop
  | nil : HsOk X g [] []
  | cons {h : HSp} {k : L2.HdS} {hs : List HSp} {ks : List L2.HdS} : HOk X g h k → HsOk X g hs ks → HsOk X g (h :: hs) (k :: ks)
section
variable {X : Cx} {g : G} {E : WX}
theorem goH_ok (hmg : X.mg = g.mg) : ∀ {hs : List HSp} {ks : List L2.HdS}, HsOk X g hs ks → ∀ {e : Exn} {D : Ends} {L : List Addr} {H : Hp} {S : Sto} {σd : Sl} {σ : St} {cls : Value} {d : Option Addr}, RepS g L S H → SlDen g L H σd σ → ExDen g L H e cls d →
    Ev g E L H (goH hs e σd S) (PF g D) → wHds X.K E D ks cls d σ H
  | _, _, .nil, e, D, L, H, S, σd, σ, cls, d, r, sl, ex, ev => ev L H cls d σ Ext.refl r sl ex
  | _, _, .cons (h := h) (k := k) hk t, e, D, L, H, S, σd, σ, cls, d, r, sl, ex, ev => by
    unfold goH at ev
    split at ev
    · rename_i y ey
      have hcls : ∀ A, X.mg y = some (.ref A) → cls = .ref A := fun A hA => by
        cases ex with
        | none q _ => rw [ey] at q; obtain ⟨A', h1, rfl⟩ := q; rw [← hmg, hA] at h1; cases h1; rfl
        | some q _ _ => rw [ey] at q; obtain ⟨A', h1, rfl⟩ := q; rw [← hmg, hA] at h1; cases h1; rfl
      split at ev
      · rename_i hl
        obtain ⟨A, hA, hx⟩ := hk.cls _ _ hl
        have hc := hcls A hA
        subst hc
        refine ⟨true, hx, fun _ a ha => ?_, fun z => absurd z (by decide)⟩
        split at ev
        · rename_i f S' er
          exact hk.run e D L H S σd σ _ d a r sl ex ha (by rw [er]; exact ev) ⟨f, S', er⟩
        · exact ev.elim
      · rename_i hl
        obtain ⟨A, hA, hx⟩ := hk.cls _ _ hl
        have hc := hcls A hA
        subst hc
        exact ⟨false, hx, fun z => absurd z (by decide), fun _ => goH_ok hmg t r sl ex ev⟩
      · exact ev.elim
    · exact ev.elim
theorem qs_tryH {body : List Stmt} {h₀ : ExceptHandler} {hds : List ExceptHandler} {pos : Pos} {hs : List HSp} {ks : List L2.HdS} {m : DM Fl} (hmg : X.mg = g.mg) (hst : X.stack = X.env :: X.outer) (hf : X.env.frame = some X.env.locals) (hN : X.N.Nodup) (tk : Takes X E)
    (hb : ∀ (W : WX) (pn : List (Addr × Obj)) (xe : Value → Shared → Prop), Takes (X.tr pn xe) W → PSs (X.tr pn xe) body (TSt g W m))
    (hh : HdsX X (h₀ :: hds) ks) (ho : HsOk X g hs ks) : PS X (.Try body (h₀ :: hds) [] [] pos) (TSt g E (sTryH hs m)) := by
  refine PS.imp (ps_tryH (tb := fun W => TSt g W m) (Wout := E) hst hf hN tk (fun W pn xe tk' _ => hb W pn xe tk') hh) ?_
  rintro D σ H ⟨L, σd, S, rp, sl, ev⟩
  refine ⟨L, σd, S, rp, sl, ?_⟩
  unfold sTryH at ev
  cases em : m σd S with
  | ok f S' => rw [em] at ev; exact ev
  | stuck => rw [em] at ev; exact ev.elim
  | exc e σ' S' =>
    rw [em] at ev
    exact fun L' H' c x σ2 x1 r1 sl1 ex => goH_ok hmg ho r1 sl1 ex (Ev.of x1 ev)
theorem exms_cls {z : Str} {C : Addr} {ks : List (Str × Bool)} (h : ExmsD X.K X.mg z ks) (hC : X.mg z = some (.ref C)) : ∀ (y : Str) (b : Bool), ks.lookup y = some b → ∃ A, X.mg y = some (.ref A) ∧ PySem.W.exmOne X.K (.ref A) (.ref C) = some b := fun y b hl => by
  obtain ⟨A, B, hA, hB, hx⟩ := h.get hl
  rw [hC] at hB
  cases hB
  exact ⟨A, hA, hx⟩
/-- a suite that does not look at the exception -/
theorem hok_plain {z : Str} {C : Addr} {ks : List (Str × Bool)} {ms : DM Fl} (h : ExmsD X.K X.mg z ks) (hC : X.mg z = some (.ref C)) : HOk X g ⟨ks, fun _ => ms⟩ ⟨.ref C, none, fun _ _ _ => TSt g noW ms⟩ :=
  ⟨exms_cls h hC, fun e D L H S σd σ cls d a r sl ex ha ev _ => ⟨L, σd, S, r, sl, ev⟩⟩
/-- return 's', e.f -/
def retF (x f s : Str) : Exn → DM Fl := fun e _ S => match e.cls, e.fs with
  | .own y, [(f', .pd d)] => if y = x ∧ f' = f then .ok (.ret (.tup [.str s, d])) S else .stuck
  | _, _ => .stuck
def tsF (C : Addr) (f s : Str) (i : Nat) : Addr → Value → Option Addr → TS := fun a cls d => tRet (tTup (tCons (tC (.str s)) (tCons (tXf a cls d C f (tVar i)) tNil)))
def XfD (K : PySem.W.Frag) (mg : Str → Option Value) (x f : Str) : Prop := ∃ C, mg x = some (.ref C) ∧ XfC K C ∧ PySem.W.findIn K (.ref C) f = some none
theorem hok_retF {z f s : Str} {C : Addr} {ks : List (Str × Bool)} {i : Nat} (hmg : X.mg = g.mg) (h : ExmsD X.K X.mg z ks) (hC : X.mg z = some (.ref C)) : HOk X g ⟨ks, retF z f s⟩ ⟨.ref C, some i, tsF C f s i⟩ := by
  refine ⟨exms_cls h hC, fun e D L H S σd σ cls d a r sl ex ha ev hok hi => ?_⟩
  obtain ⟨fl, S', er⟩ := hok
  have ev' : Ev g noW L H (retF z f s e σd S) (PF g D) := ev
  have er' : retF z f s e σd S = .ok fl S' := er
  unfold retF at ev'
  split at ev'
  · rename_i y f' dv ec ef
    split at ev'
    · rename_i hy
      obtain ⟨rfl, rfl⟩ := hy
      cases ex with
      | none q e0 => rw [ef] at e0; cases e0
      | @some dd ws q hd pr =>
        rw [ec] at q
        obtain ⟨C', h1, rfl⟩ := q
        rw [← hmg, hC] at h1
        cases h1
        rw [ef] at pr
        cases pr with
        | cons p1 p2 =>
          cases p2
          rename_i w
          obtain ⟨fn, v⟩ := w
          obtain ⟨rfl, dn⟩ := p1
          cases dn with
          | pd dz =>
            refine ⟨.ref a, List.getElem?_set_self hi, rfl, rfl, dd, _, v, rfl, hd, by simp [List.lookup], ?_⟩
            refine ⟨by show 2 ≤ sizeLine; decide, fun p hp => ?_⟩
            have x1 : Ext g L H L (upd H p (.tup [.str s, v])) := Ext.new1 hp
            exact ev' L _ x1 (r.new1 hp) _ (.pd (.tup (.inl (.inl upd_same)) (DzAll.new r hp (.cons (.str s) (.cons dz .nil)))))
    · exact ev'.elim
  · exact ev'.elim
theorem hds_retF {z f s n : Str} {C : Addr} {i : Nat} {np np2 rp tp cp ap pos' : Pos} {j k : Nat} {hds : List ExceptHandler} {l : List L2.HdS} (hi : X.N[i]? = some n) (hln : X.env.kindOf n = some .local) (hgz : Gl X z) (hC : X.mg z = some (.ref C)) (T : XfC X.K C) (hno : PySem.W.findIn X.K (.ref C) f = some none)
    (hv : Vis X.env.scope n) (hb : attributeBase (.Name n np2) f X.env (eval (.Name n np2) X.env) = eval (.Name n np2) X.env) (r : HdsX X hds l) (hdb : (z == ("__debug__" : Str)) = false := by decide) (hd : (n == ("__debug__" : Str)) = false := by decide) (hcd : (n == ("__classdict__" : Str)) = false := by decide) :
    HdsX X (.ExceptHandler (some (.Name z np)) (some n) [.Return (some (.Tuple [.Constant (.str s) j cp, .Attribute (.Name n np2) f ap] k tp)) rp] pos' :: hds) (⟨.ref C, some i, tsF C f s i⟩ :: l) :=
  .named hi hln ⟨hgz, hdb, .inl hC⟩ (fun a oe cls d pn hz hf => pss_one (ps_ret (pe_tup (pa_cons pe_str (pa_cons (pe_xf T hno hz hf (pe_var hi hv hd hcd) hb) pa_nil))))) r
theorem hds_plain {z : Str} {C : Addr} {b₀ : Stmt} {suite : List Stmt} {np pos' : Pos} {ms : DM Fl} {hds : List ExceptHandler} {l : List L2.HdS} (hgz : Gl X z) (hC : X.mg z = some (.ref C)) (hsu : ∀ (a : Addr) (oe : Obj) (pn : List (Addr × Obj)), PSs (X.suite a ((a, oe) :: pn)) (b₀ :: suite) (TSt g noW ms)) (r : HdsX X hds l) (hdb : (z == ("__debug__" : Str)) = false := by decide) :
    HdsX X (.ExceptHandler (some (.Name z np)) none (b₀ :: suite) pos' :: hds) (⟨.ref C, none, fun _ _ _ => TSt g noW ms⟩ :: l) :=
  .cons ⟨hgz, hdb, .inl hC⟩ (fun a oe cls d pn _ _ => hsu a oe pn) r
end
end DL
end
section
namespace DL
open PySem PySem.Spec PyProof.Rows L2
def HdL (X : Cx) (g : G) (hds : List ExceptHandler) (hs : List HSp) : Prop := ∃ ks, HdsX X hds ks ∧ HsOk X g hs ks
section
variable {X : Cx} {g : G} {E : WX}
theorem hdl_nil : HdL X g [] [] := ⟨[], .nil, .nil⟩
theorem hdl_plain {z : Str} {b₀ : Stmt} {suite : List Stmt} {np pos' : Pos} {ks : List (Str × Bool)} {ms : DM Fl} {hds : List ExceptHandler} {hs : List HSp} (hz : ∃ C, X.mg z = some (.ref C)) (h : ExmsD X.K X.mg z ks) (hgz : Gl X z)
    (hsu : ∀ (a : Addr) (oe : Obj) (pn : List (Addr × Obj)), PSs (X.suite a ((a, oe) :: pn)) (b₀ :: suite) (TSt g noW ms)) (r : HdL X g hds hs) (hdb : (z == ("__debug__" : Str)) = false := by decide) :
    HdL X g (.ExceptHandler (some (.Name z np)) none (b₀ :: suite) pos' :: hds) (⟨ks, fun _ => ms⟩ :: hs) := by
  obtain ⟨C, hC⟩ := hz
  obtain ⟨l, r1, r2⟩ := r
  exact ⟨_, hds_plain hgz hC hsu r1 hdb, .cons (hok_plain h hC) r2⟩
theorem hdl_retF {z f s n : Str} {i : Nat} {np np2 rp tp cp ap pos' : Pos} {j k : Nat} {ks : List (Str × Bool)} {hds : List ExceptHandler} {hs : List HSp} (hmg : X.mg = g.mg) (hz : XfD X.K X.mg z f) (h : ExmsD X.K X.mg z ks) (hi : X.N[i]? = some n) (hln : X.env.kindOf n = some .local) (hgz : Gl X z)
    (hv : Vis X.env.scope n) (hb : attributeBase (.Name n np2) f X.env (eval (.Name n np2) X.env) = eval (.Name n np2) X.env) (r : HdL X g hds hs) (hdb : (z == ("__debug__" : Str)) = false := by decide) (hd : (n == ("__debug__" : Str)) = false := by decide) (hcd : (n == ("__classdict__" : Str)) = false := by decide) :
    HdL X g (.ExceptHandler (some (.Name z np)) (some n) [.Return (some (.Tuple [.Constant (.str s) j cp, .Attribute (.Name n np2) f ap] k tp)) rp] pos' :: hds) (⟨ks, retF z f s⟩ :: hs) := by
  obtain ⟨C, hC, T, hno⟩ := hz
  obtain ⟨l, r1, r2⟩ := r
  exact ⟨_, hds_retF hi hln hgz hC T hno hv hb r1 hdb hd hcd, .cons (hok_retF hmg h hC) r2⟩
theorem qs_tryL {body : List Stmt} {h₀ : ExceptHandler} {hds : List ExceptHandler} {pos : Pos} {hs : List HSp} {m : DM Fl} (hmg : X.mg = g.mg) (hst : X.stack = X.env :: X.outer) (hf : X.env.frame = some X.env.locals) (hN : X.N.Nodup) (tk : Takes X E)
    (hh : HdL X g (h₀ :: hds) hs)
    (hb : ∀ (W : WX) (pn : List (Addr × Obj)) (xe : Value → Shared → Prop), Takes (X.tr pn xe) W → PSs (X.tr pn xe) body (TSt g W m)) :
    PS X (.Try body (h₀ :: hds) [] [] pos) (TSt g E (sTryH hs m)) := by
  obtain ⟨l, r1, r2⟩ := hh
  exact qs_tryH hmg hst hf hN tk hb r1 r2
end
end DL
namespace DL
open PySem
/-- a class of the text, by its name -/
def ClsD (mg : Str → Option Value) (z : Str) : Prop := ∃ C, mg z = some (.ref C)
theorem ClsD.ex {mg : Str → Option Value} {z : Str} (h : ClsD mg z) : ∃ C, mg z = some (.ref C) := h
end DL
end
section
/-! what is known of the heap in which the law is called: the modules' dict, the tables of code objects -/
namespace DL
open PySem PySem.Spec PyProof.Rows L2
/-- the module's defs of the written part, by name -/
def fnNames (K : PySem.W.Frag) : List Str := K.filterMap fun p => match p.2.data with
  | .func fd => some fd.name
  | _ => none
abbrev lamOf (x : Str) : Str := (x ++ (".<locals>." : Str)) ++ ("<lambda>" : Str)
theorem tabsK_iff {K : PySem.W.Frag} {p : Addr × Str} : p ∈ tabsK K ↔ ∃ x ∈ fnNames K, ∃ c, PySem.W.tabIn K x = some (c, p.1) ∧ p.2 = lamOf x := by
  unfold tabsK fnNames
  constructor
  · intro h
    obtain ⟨q, hq, e⟩ := List.mem_filterMap.mp h
    split at e
    · rename_i fd hd
      obtain ⟨r, hr, e2⟩ := Option.map_eq_some_iff.mp e
      obtain ⟨c, P⟩ := r
      cases e2
      exact ⟨fd.name, List.mem_filterMap.mpr ⟨q, hq, by rw [hd]⟩, c, hr, rfl⟩
    · cases e
  · rintro ⟨x, hx, c, hc, e⟩
    obtain ⟨q, hq, e1⟩ := List.mem_filterMap.mp hx
    refine List.mem_filterMap.mpr ⟨q, hq, ?_⟩
    split at e1
    · rename_i fd hd
      cases e1
      try rw [hd]
      show Option.map _ (PySem.W.tabIn K fd.name) = _
      rw [hc]
      show some (p.1, lamOf fd.name) = some p
      rw [← e]
    · cases e1
/-- what is asked of the written part: each name one table, no table is of it -/
def tabsOk (K : PySem.W.Frag) : Bool := decide ((tabsK K).map (·.1)).Nodup && (tabsK K).all fun p => (K.lookup p.1).isNone
structure BaseD (K : PySem.W.Frag) (mg : Str → Option Value) (base : Heap) : Prop where
  sys : ∃ o es ep, base.get? sysModules = some o ∧ o.data = .dict es ep
  tab : ∀ x ∈ fnNames K, ∀ c P, PySem.W.tabIn K x = some (c, P) → LamX.TabB base mg c P
  ok : tabsOk K = true
theorem tabsOk_one {K : PySem.W.Frag} (h : tabsOk K = true) {p q : Addr × Str} (hp : p ∈ tabsK K) (hq : q ∈ tabsK K) (e : p.1 = q.1) : p.2 = q.2 := by
  have nd : ((tabsK K).map (·.1)).Nodup := of_decide_eq_true (Bool.and_eq_true_iff.mp h).1
  generalize tabsK K = T at nd hp hq
  induction T with
  | nil => cases hp
  | cons r T ih =>
    rw [List.map_cons] at nd
    have nd' := List.nodup_cons.mp nd
    rcases List.mem_cons.mp hp with hp1 | hp1
    · rcases List.mem_cons.mp hq with hq1 | hq1
      · rw [hp1, hq1]
      · exact absurd (show r.1 ∈ T.map (·.1) from List.mem_map.mpr ⟨q, hq1, by rw [← hp1]; exact e.symm⟩) nd'.1
    · rcases List.mem_cons.mp hq with hq1 | hq1
      · exact absurd (show r.1 ∈ T.map (·.1) from List.mem_map.mpr ⟨p, hp1, by rw [← hq1]; exact e⟩) nd'.1
      · exact ih nd'.2 hp1 hq1
theorem tabsOk_none {K : PySem.W.Frag} (h : tabsOk K = true) {p : Addr × Str} (hp : p ∈ tabsK K) : K.lookup p.1 = none := by
  have z := List.all_eq_true.mp (Bool.and_eq_true_iff.mp h).2 p hp
  exact Option.isNone_iff_eq_none.mp z
/-- the heap as it is told at the law's entry: the script, the tables -/
def entryH (T : List Addr) (a : Addr) (vs : List Value) (ns : List Int) : Hp := fun b =>
  if b = a then some (.frz { cls := .type "list", data := .seq vs.toArray } (.lst (ns.map V.int))) else if b ∈ T then some (.tbl #[]) else none
section
variable {T : List Addr} {a b : Addr} {vs : List Value} {ns : List Int}
theorem entry_a : entryH T a vs ns a = some (.frz { cls := .type "list", data := .seq vs.toArray } (.lst (ns.map V.int))) := if_pos rfl
theorem entry_t (n : b ≠ a) (h : b ∈ T) : entryH T a vs ns b = some (.tbl #[]) := by unfold entryH; rw [if_neg n, if_pos h]
theorem entry_n (n : b ≠ a) (h : b ∉ T) : entryH T a vs ns b = none := by unfold entryH; rw [if_neg n, if_neg h]
theorem entry_cases {u : HO} (e : entryH T a vs ns b = some u) : (b = a ∧ u = .frz { cls := .type "list", data := .seq vs.toArray } (.lst (ns.map V.int))) ∨ (b ≠ a ∧ b ∈ T ∧ u = .tbl #[]) := by
  unfold entryH at e
  split at e
  · rename_i h
    exact .inl ⟨h, (Option.some.inj e).symm⟩
  · rename_i h
    split at e
    · rename_i h2
      exact .inr ⟨h, h2, (Option.some.inj e).symm⟩
    · cases e
end
theorem law_callB {P : Program} {w : World} {K : PySem.W.Frag} {mg mb : Str → Option Value} {k : Nat} {fa a : Addr} {fd : FuncData} {x : Str} {sp : Sp} {s₁ : Shared} {vs : List Value} {ns : List Int}
    (KX : K.In s₁.heap) (hns : s₁.heap.Ns mainGlobals mg) (hb : s₁.heap.Ns builtinsNs mb) (hbb : ∀ x : Str, x ≠ "__name__" → mb x = bootBuiltins x) (hlim : s₁.heap.NoLimit) (hg : s₁.gens = #[])
    (hsys : ∃ o es ep, s₁.heap.get? sysModules = some o ∧ o.data = .dict es ep)
    (hT : ∀ x ∈ fnNames K, ∀ c Q, PySem.W.tabIn K x = some (c, Q) → PySem.W.CodeHd s₁.heap c Q ∧ s₁.heap.get? Q = some (PySem.W.tabObj #[])) (hok : tabsOk K = true)
    (hbm : ∃ (bm : Addr) (ob : Obj), mg "__builtins__" = some (.ref bm) ∧ bm ≠ builtinsNs ∧ s₁.heap.get? bm = some ob ∧ ob.cls = .type "module" ∧ ob.dict = some builtinsNs ∧ ob.data = .plain)
    (ha : s₁.heap.get? a = some { cls := .type "list", data := .seq vs.toArray }) (hi : IntsAre vs ns) (hl : ns.length ≤ sizeLine) (hr : RoomG k callerA)
    (F : ∀ base : Heap, K.In base → base.Ns mainGlobals mg → BaseD K mg base → FnG P w K mg base k fa fd [x] sp) (hbind : ∀ (s : Shared) (u : Value), BindsTo s fd ⟨[u], []⟩ [(x, u)])
    (hKa : K.lookup a = none) (hsp : ∀ H : Hp, Rd H a (.lst (ns.map V.int)) → LamX.Tabs (tabsK K) H → sp [.ref a] H (fun v _ => v = .bl true) fun _ _ _ => False)
    (hCX : ∀ H e s', L2.CX P w [] H s₁ (fun _ _ _ => False) e s' → False) :
    codeAny (model P w) callerA (.call (.ref fa) ⟨[.ref a], []⟩) (fun r s' => r = .ok (.ret (.bool true)) ∧ OldK s₁.heap s'.heap ∧ s'.os = s₁.os ∧ AllBare s'.gens) s₁ := by
  have rv := vals_ints hi
  let T := (tabsK K).map (·.1)
  have inT : ∀ {b}, b ∈ T → ∃ x ∈ fnNames K, ∃ c, PySem.W.tabIn K x = some (c, b) := fun {b} h => by
    obtain ⟨p, hp, e⟩ := List.mem_map.mp h
    obtain ⟨x, hx, c, hc, _⟩ := tabsK_iff.mp hp
    exact ⟨x, hx, c, by rw [← e]; exact hc⟩
  have atT : ∀ {b}, b ∈ T → s₁.heap.get? b = some (PySem.W.tabObj #[]) := fun {b} h => by
    obtain ⟨x, hx, c, hc⟩ := inT h
    exact (hT x hx c b hc).2
  have aT : a ∉ T := fun h => by
    have q := (atT h).symm.trans ha
    cases q
  let H := entryH T a vs ns
  have off : ∀ {b : Addr} {o : Obj}, s₁.heap.get? b = some o → (∀ q n, o.data = .seq q n → False) → (o.data = .fields #[] → False) → H b = none := fun {b o} e n1 n2 => by
    refine entry_n (fun z => ?_) fun z => ?_
    · rw [z, ha] at e
      cases e
      exact n1 _ _ rfl
    · rw [atT z] at e
      cases e
      exact n2 rfl
  have offD : ∀ {b : Addr} {o : Obj} {es ep}, s₁.heap.get? b = some o → o.data = .dict es ep → H b = none := fun {b o es ep} e d =>
    off e (fun q n z => by rw [d] at z; cases z) fun z => by rw [d] at z; cases z
  have inB : ∀ {b : Addr} {o : Obj}, s₁.heap.get? b = some o → H b = none → (hidT s₁.heap H).get? b = some o := fun e n => hidT_get e n
  have nsB : ∀ {b : Addr} {m : Str → Option Value}, s₁.heap.Ns b m → (hidT s₁.heap H).Ns b m := fun {b m} ⟨o, es, ep, e, d, r⟩ => ⟨o, es, ep, inB e (offD e d), d, r⟩
  have kB : K.In (hidT s₁.heap H) := fun b o e => by
    refine inB (KX b o e) (entry_n (fun z => ?_) fun z => ?_)
    · rw [z, hKa] at e
      cases e
    · obtain ⟨p, hp, q⟩ := List.mem_map.mp z
      have := tabsOk_none hok hp
      rw [q, e] at this
      cases this
  have modB : L2.Mod K mg (hidT s₁.heap H) := ⟨kB, nsB hns, ⟨mb, nsB hb, hbb⟩, let ⟨mc, h1, h2⟩ := hlim; ⟨mc, nsB h1, h2⟩⟩
  have bd : BaseD K mg (hidT s₁.heap H) := by
    refine ⟨?_, fun x hx c Q hc => ?_, hok⟩
    · obtain ⟨o, es, ep, e, d⟩ := hsys
      exact ⟨o, es, ep, inB e (offD e d), d⟩
    · obtain ⟨hco, hQ⟩ := hT x hx c Q hc
      refine ⟨?_, ?_, fun z => ?_⟩
      · obtain ⟨o, us, file, tf, flags, tg, inF, text, tt, e1, r1, r2, r3, r⟩ := hco
        refine ⟨o, us, file, tf, flags, tg, inF, text, tt, inB e1 (off e1 (fun q n z => ?_) fun z => ?_), r1, r2, r3, r⟩
        · rw [r2] at z; cases z
        · rw [r2] at z; cases z
          simp at r3
      · obtain ⟨bm, ob, b1, b2, b3, b4, b5, b6⟩ := hbm
        refine ⟨bm, ob, b1, b2, fun q => ?_, fun q => ?_, inB b3 (off b3 (fun q n z => ?_) fun z => ?_), b4, b5, b6⟩
        · obtain ⟨o, es, ep, e, hd, _⟩ := hns
          rw [q, e] at b3
          cases b3
          rw [hd] at b6; cases b6
        · rw [q, hQ] at b3
          cases b3; cases b6
        · rw [b6] at z; cases z
        · rw [b6] at z; cases z
      · obtain ⟨o, es, ep, e, hd, _⟩ := hns
        rw [z, hQ] at e
        cases e; cases hd
  have hokH : L2.HOk P w H s₁.heap := fun b u z => by
    rcases entry_cases z with ⟨rfl, rfl⟩ | ⟨_, h, rfl⟩
    · exact ⟨ha, by rw [List.length_map]; exact hl, vs, _, rv, ha⟩
    · exact atT h
  have e0 : Env0 P w K mg (hidT s₁.heap H) callerA [] s₁ H := ⟨rfl, modB, fun b o e => of_hidT e, Nat.le_of_eq (hidT_size _ _), trivial, fun b hb => (nomatch (show b ∈ ([] : List Addr) from hb)), hokH, .of_eq hg⟩
  have rdA : Rd H a (.lst (ns.map V.int)) := .inr ⟨_, entry_a⟩
  have tbs : LamX.Tabs (tabsK K) H := fun p hp => .nil (entry_t (fun z => aT (by rw [← z]; exact List.mem_map.mpr ⟨p, hp, rfl⟩)) (List.mem_map.mpr ⟨p, hp, rfl⟩))
  refine codeAny_mono ((F _ kB (nsB hns) bd).run callerA [] s₁ H ⟨[.ref a], []⟩ [.ref a] [.ref a] _ _ hr e0 (hbind s₁ (.ref a)) (.cons rfl .nil) (hsp H rdA tbs)) fun r s' h => ?_
  match r, h with
  | .error e, h => exact (hCX H e s' h).elim
  | .ok .next, h => exact False.elim h
  | .ok .brk, h => exact False.elim h
  | .ok .cont, h => exact False.elim h
  | .ok (.ret u), h =>
    obtain ⟨v, H', os, bare, un, hok', r', q⟩ := h
    cases (show v = .bl true from q)
    cases (show u = Value.bool true from r')
    have stay : ∀ b o, b ∉ T → s₁.heap.get? b = some o → s'.heap.get? b = some o := fun b o nb e => by
      by_cases hba : b = a
      · subst hba
        have z2 := un.frzs b _ _ entry_a
        obtain ⟨e2, _⟩ := hok' b _ z2
        rw [ha] at e
        cases e
        exact e2
      · exact un.keep b o e (entry_n hba nb) (fun z => (nomatch (show b ∈ ([] : List Addr) from z))) (by simp)
    have grown : ∀ b ∈ T, ∃ more : Array Value, s'.heap.get? b = some { cls := .none, data := .fields more } := fun b hb => by
      obtain ⟨more, z⟩ := un.tbls b #[] (entry_t (fun z => aT (z ▸ hb)) hb)
      exact ⟨_, hok' b _ z⟩
    refine ⟨rfl, ⟨fun b o e => ?_, fun b o e => ?_⟩, os, bare⟩
    · by_cases hb : b ∈ T
      · obtain ⟨more, hm⟩ := grown b hb
        obtain ⟨x, hx, c, hc⟩ := inT hb
        have tq := hT x hx c b hc
        rw [tq.2] at e
        cases e
        exact .inr (.inl ⟨(tq.1.tab tq.2).isCodeTable, rfl, #[], more, rfl, by rw [Array.empty_append]; exact hm⟩)
      · exact .inl (stay b o hb e)
    · by_cases hb : b ∈ T
      · obtain ⟨more, hm⟩ := grown b hb
        exact ⟨_, hm⟩
      · exact ⟨o, stay b o hb e⟩
/-- each def of the written part is one of the text's -/
def recsOk (q : Program) (K : PySem.W.Frag) : Bool := (fnNames K).all fun x => (PySem.W.tabIn K x).isNone || ((recsOf q).find? fun e => e.name == x).isSome
theorem walk_ofH {l : PySem.W.OpenLaw} {n k : Nat} {q : Program} {loose : List Str} {XP : (Str → Option Value) → Heap → Prop} {YP : World → Heap → Prop} {d : DefRec} {K : Params → PySem.W.Frag} {sp : World → Sp} {x : Str}
    (hn : l.most = some n) (hn2 : n ≤ sizeLine) (hdf : d.params.defaults = []) (hr : RoomG k callerA) (hKL : ∀ w : World, noLst (K w.params) = true) (hKT : ∀ w : World, tabsOk (K w.params) = true) (hKR : ∀ w : World, recsOk q (K w.params) = true) (hin : importsNone q = true)
    (hY : ∀ (w : World) (h : Heap), YP w h → (K w.params).In h)
    (F : ∀ (w : World) (mg : Str → Option Value) (fa : Addr) (h : Heap), (K w.params).In h → h.Ns mainGlobals mg → mg d.name = some (.ref fa) →
      ∃ fd : FuncData, (∀ (s : Shared) (u : Value), BindsTo s fd ⟨[u], []⟩ [(x, u)]) ∧
        ∀ base : Heap, (K w.params).In base → base.Ns mainGlobals mg → BaseD (K w.params) mg base → FnG l.prog w (K w.params) mg base k fa fd [x] (sp w))
    (hsp : ∀ (w : World) (H : Hp) (a : Addr) (ns : List Int), ns.length ≤ n → Rd H a (.lst (ns.map V.int)) → LamX.Tabs (tabsK (K w.params)) H → sp w [.ref a] H (fun v _ => v = .bl true) fun _ _ _ => False)
    (hCX : ∀ (w : World) (H : Hp) (s : Shared) (e : Value) (s' : Shared), L2.CX l.prog w [] H s (fun _ _ _ => False) e s' → False) :
    PySem.W.WalkO q loose XP YP l.row.toRowW d [] (fun f vs => PySem.call f vs) := by
  refine Att.attach_call hn hdf fun w s₀ s₁ mg mb fa o pm cd doc a vs ns G Y ho hd hcd hmg hobj hints hlen hg => ?_
  have KX := hY w _ Y
  obtain ⟨fd, hb, hF⟩ := F w mg fa _ KX G.T.g hmg
  have hKa : (K w.params).lookup a = none := by
    cases e : (K w.params).lookup a with
    | none => rfl
    | some o =>
      have e2 := KX a o e
      rw [hobj] at e2
      cases e2
      exact absurd rfl (noLst_ok (hKL w) e)
  have hsys : ∃ o es ep, s₁.heap.get? sysModules = some o ∧ o.data = .dict es ep := by
    obtain ⟨mm, ⟨o, es, ep, e, d, _⟩, _⟩ := (G.T.seer hin).mods
    exact ⟨o, es, ep, e, d⟩
  refine law_callB KX G.T.g G.T.b G.T.builtins G.T.nolimit hg hsys (fun x hx c Q hc => ?_) (hKT w) G.T.bmain hobj hints (Nat.le_trans hlen hn2) hr hF hb hKa (fun H hS hT => hsp w H a ns hlen hS hT) fun H e s' => hCX w H s₁ e s'
  have z := List.all_eq_true.mp (hKR w) x hx
  rw [hc, Option.isNone_some, Bool.false_or] at z
  obtain ⟨dr, hdr⟩ := Option.isSome_iff_exists.mp z
  exact PySem.W.tab_of G.T KX hdr hc
end DL
end
section
set_option maxHeartbeats 1000000
/-! a lambda is made: what the abstract heap is then -/
namespace DL
open PySem PySem.Spec PyProof.Rows L2
/-- what the making of a lambda asks of the def in which it stands -/
structure MkL (X : Cx) : Prop where
  ex : ∃ c P, X.env.code = .ref c ∧ (P, X.env.qual ++ ("<lambda>" : Str)) ∈ tabsK X.K ∧ LamX.TabB X.base X.mg c P
  ok : tabsOk X.K = true
/-- behind the making: all but tables as it was, nothing lost, the code object known -/
structure LamH (T : List (Addr × Str)) (q : Str) (H H1 : Hp) (c' : Addr) : Prop where
  keep : ∀ b o, H b = some o → ¬ IsTb o → H1 b = some o
  there : ∀ b o, H b = some o → ∃ o', H1 b = some o'
  tabs : LamX.Tabs T H1
  code : H1 c' = some (LamX.CodeO c' q)
abbrev lamObj (X : Cx) (params : Arguments) (body : Expr) (scope : Scope) (pm : Value) (c' : Addr) (ctv : Value) : Obj :=
  PySem.W.kla_obj "<lambda>" (X.env.qual ++ ("<lambda>" : Str)) params body scope (cloFrom X.env.cells scope.names []) pm c' ctv
section
variable {X : Cx} {pins : List (Addr × Obj)} {σ : L2.St} {H : Hp} {s : Shared}
theorem notFrame (I : Inv X pins σ H s) {f : Addr} (hf : s.heap.objs.size ≤ f) : f ∉ frs X.stack := fun z => by
  have sub := I.stkSub _ z
  rcases List.mem_cons.mp sub with e | e
  · have lt := I.lt
    exact absurd (Nat.lt_of_lt_of_le (e ▸ lt) hf) (Nat.lt_irrefl _)
  · exact I.nofs hf e
theorem lam_new {params : Arguments} {body : Expr} {scope : Scope} {pos : Pos} {Ex Q : Value → Shared → Prop} (I : Inv X pins σ H s) (M : MkL X) (ht : LamX.Tabs (tabsK X.K) H) (hd : defaultsOf params X.env = ([], [])) (LS : LamX.LamS X.env.scope scope)
    (h : ∀ (f c' : Addr) (pm ctv : Value) (H1 : Hp) (s' : Shared), Inv X pins σ H1 s' → LamH (tabsK X.K) (X.env.qual ++ ("<lambda>" : Str)) H H1 c' → s'.heap.get? f = some (lamObj X params body scope pm c' ctv) → H1 f = none → f ∉ frs X.stack → Q (.ref f) s') :
    wpAny (model X.prog X.w) X.A (eval (.Lambda params body scope pos) X.env) Q Ex s := by
  obtain ⟨c, P, hco, hin, tb⟩ := M.ex
  obtain ⟨pz, hP, htr, ham⟩ := ht _ hin
  have hPr : s.heap.get? P = some (PySem.W.tabObj pz) := I.hok P _ hP
  have hbi : s.heap.BuiltinsAt X.mg P := tb.bm.keeps I.bk
  have hcl := closure_ok (LS.has I.ok)
  have hgl := I.mod.glob.keeps I.bk
  have hcd := tb.code.keeps I.bk
  refine PySem.W.kla_eval hd ?_
  cases hfound : codeAmong pos pz.toList with
  | some cv =>
    obtain ⟨c', rfl, hc'⟩ := ham pos cv hfound
    refine PySem.W.kla_makeFunctionHit (c := c) (P := P) hcl I.ok.glob hgl hco hcd hPr htr hfound hbi fun ctv hp tk kp sz => ?_
    refine h hp.objs.size c' _ ctv H _ (I.kept fun b o e => Heap.get?_push_of_some _ (kp b o e)) ⟨fun _ _ e _ => e, fun _ o e => ⟨o, e⟩, ht, hc'⟩ (Heap.get?_push_size _ rfl) (I.hok.fresh sz) (notFrame I sz)
  | none =>
    refine PySem.W.kla_makeFunction (c := c) (P := P) hcl I.ok.glob hgl hco hcd hPr htr hfound tb.gP hbi fun c' ctv hp tk kp ge lt rec tbl => ?_
    obtain ⟨c2, oc, vs, t, ec, hoc, hdat, hnm⟩ := rec
    cases ec
    have free : H c' = none := I.hok.fresh ge
    have big : s.heap.objs.size ≤ hp.objs.size := Nat.le_of_lt (Nat.lt_of_le_of_lt ge lt)
    have J := LamX.inv_table (t' := tk) (more := #[rawInt pos.line, rawInt pos.col, .ref c']) I hP (fun b o nb e => Heap.get?_push_of_some _ (kp b o nb e)) (Heap.get?_push_of_some _ tbl) ge ⟨oc, vs, t, Heap.get?_push_of_some (PySem.W.kla_obj "<lambda>" (X.env.qual ++ ("<lambda>" : Str)) params body scope (cloFrom X.env.cells scope.names []) ((X.mg "__name__").getD .none) c' ctv) hoc, hdat, hnm⟩
    have other : ∀ b, b ≠ c' → b ≠ P → upd (upd H P (.tbl (pz ++ #[rawInt pos.line, rawInt pos.col, .ref c']))) c' (LamX.CodeO c' (X.env.qual ++ ("<lambda>" : Str))) b = H b := fun b n1 n2 => by
      rw [upd_ne n1, upd_ne n2]
    have pc : P ≠ c' := ne_of_none hP free
    have kN : ∀ b o, H b = some o → ¬ IsTb o → upd (upd H P (.tbl (pz ++ #[rawInt pos.line, rawInt pos.col, .ref c']))) c' (LamX.CodeO c' (X.env.qual ++ ("<lambda>" : Str))) b = some o := fun b o e nt => by
      rw [other b (ne_of_none e free) (fun z => nt ⟨pz, by rw [z, hP] at e; exact (Option.some.inj e).symm⟩)]
      exact e
    have lst : (pz ++ #[rawInt pos.line, rawInt pos.col, .ref c']).toList = pz.toList ++ [rawInt pos.line, rawInt pos.col, .ref c'] := by simp
    have kC : ∀ {c0 : Addr} {q0 : Str}, H c0 = some (LamX.CodeO c0 q0) → upd (upd H P (.tbl (pz ++ #[rawInt pos.line, rawInt pos.col, .ref c']))) c' (LamX.CodeO c' (X.env.qual ++ ("<lambda>" : Str))) c0 = some (LamX.CodeO c0 q0) := fun {c0 q0} e =>
      kN _ _ e fun z => by
        obtain ⟨ps, z⟩ := z
        exact LamX.codeO_ne ps z
    refine h hp.objs.size c' _ ctv _ _ J ⟨kN, fun b o e => ?_, fun p hp' => ?_, upd_same⟩ (Heap.get?_push_size _ rfl) ?_ (notFrame I big)
    · by_cases hb : b = P
      · exact ⟨_, by rw [hb, upd_ne pc, upd_same]⟩
      · exact ⟨o, by rw [other b (ne_of_none e free) hb]; exact e⟩
    · by_cases hb : p.1 = P
      · have hq : p.2 = X.env.qual ++ ("<lambda>" : Str) := tabsOk_one M.ok hp' hin hb
        rw [hb, hq]
        refine ⟨_, by rw [upd_ne pc, upd_same], by rw [lst]; exact PySem.TriplesOk_snoc _ _ _ _ htr, fun p2 cv hcv => ?_⟩
        rw [lst] at hcv
        rcases LamX.among_app _ htr hcv with z | z
        · obtain ⟨c0, e1, e2⟩ := ham p2 cv z
          exact ⟨c0, e1, kC e2⟩
        · exact ⟨c', z, upd_same⟩
      · obtain ⟨pz', a1, a2, a3⟩ := ht p hp'
        refine ⟨pz', by rw [other _ (ne_of_none a1 free) hb]; exact a1, a2, fun p2 cv hcv => ?_⟩
        obtain ⟨c0, e1, e2⟩ := a3 p2 cv hcv
        exact ⟨c0, e1, kC e2⟩
    · have nP := Heap.lt_size hPr
      rw [other _ (Nat.ne_of_gt lt) (Nat.ne_of_gt (Nat.lt_of_lt_of_le nP big))]
      exact I.hok.fresh big
end
section
variable {g : G} {L : List Addr} {S : Sto} {H H1 : Hp} {T : List (Addr × Str)} {q : Str} {c' : Addr}
theorem LamH.ext (e : LamH T q H H1 c') : Ext g L H L H1 := ⟨List.prefix_refl _, fun _ h n => absurd h n, fun a o e1 nt _ => e.keep a o e1 nt, e.there⟩
/-- the same store where nothing of it is touched -/
theorem RepS.same (r : RepS g L S H) (keep : ∀ b o, H b = some o → ¬ IsTb o → H1 b = some o) (there : ∀ b o, H b = some o → ∃ o', H1 b = some o') (tabs : LamX.Tabs (tabsK g.K) H1) : RepS g L S H1 where
  nd := r.nd
  pre := r.pre
  obs := Paired.imp r.obs fun ob a d => d.ext (M' := L) r ⟨List.prefix_refl _, fun _ h n => absurd h n, fun a o e nt _ => keep a o e nt, there⟩ fun o e nt => keep a o e nt
  fresh := r.fresh
  own := r.own
  keep := fun a o e nt na => keep _ _ (r.keep a o e nt na) nt
  amb := fun a w => let ⟨o, e, nt⟩ := r.amb a w; ⟨o, keep _ _ e (fun ⟨ps, z⟩ => nt.no_tbl ps z), nt⟩
  asW := r.asW
  th0 := fun a o e => let ⟨o', e'⟩ := r.th0 a o e; there a o' e'
  tabs := tabs
end
end DL
end
section
set_option maxHeartbeats 1000000
/-! a lambda without parameters handed to a def that calls it -/
namespace DL
open PySem PySem.Spec PyProof.Rows L2
/-- what the lambda comes to, each time -/
inductive TR where
  | val (d : D)
  | exc (e : Exn)
  | stuck
def hideS (σ : Sl) : Sl := σ.map fun o => match o with
  | some (.ref _) => none
  | o => o
def thk (m : DM D) (σ : Sl) : TR := match m (hideS σ) [] with
  | .ok d [] => if noRef d = true then .val d else .stuck
  | .exc e _ [] => if (e.fs.all fun p => noRef p.2) = true then .exc e else .stuck
  | _ => .stuck
open Classical in
/-- x() of the lambda v that stands in the slot i -/
noncomputable def eThk (i : Nat) (v : V) (R : TR) : DM D := fun σ S => if σ[i]? = some (some (.raw v)) then (match R with
  | .val d => .ok d S
  | .exc e => .exc e σ S
  | .stuck => .stuck) else .stuck
def Act (Z : Cx) (g : G) (i : Nat) (a : Str) (v : V) (R : TR) : Prop := ∀ (W : WX) (pn : List (Addr × Obj)) (xe : Value → Shared → Prop) (p1 p2 : Pos), Takes (Z.tr pn xe) W →
  PE (Z.tr pn xe) (.Call (.Name a p1) [] [] p2) (T g W (eThk i v R))
theorem thk_val {m : DM D} {σ : Sl} {d : D} (h : thk m σ = .val d) : m (hideS σ) [] = .ok d [] ∧ noRef d = true := by
  unfold thk at h
  split at h
  · rename_i d' e
    split at h
    · cases h
      exact ⟨e, by assumption⟩
    · cases h
  · split at h <;> cases h
  · cases h
theorem thk_exc {m : DM D} {σ : Sl} {e : Exn} (h : thk m σ = .exc e) : ∃ σe, m (hideS σ) [] = .exc e σe [] ∧ (e.fs.all fun p => noRef p.2) = true := by
  unfold thk at h
  split at h
  · split at h <;> cases h
  · rename_i e' σe q
    split at h
    · cases h
      exact ⟨σe, q, by assumption⟩
    · cases h
  · cases h
section
variable {g : G} {L : List Addr} {S : Sto} {H : Hp} {σd : Sl} {σ : L2.St}
theorem hide_get {σd : Sl} {i : Nat} {d : D} (h : (hideS σd)[i]? = some (some d)) : σd[i]? = some (some d) ∧ noRef d = true := by
  unfold hideS at h
  rw [List.getElem?_map] at h
  cases e : σd[i]? with
  | none => rw [e] at h; cases h
  | some o =>
    rw [e] at h
    cases o with
    | none => cases h
    | some d' =>
      cases d' with
      | ref n => cases h
      | _ => cases h; exact ⟨rfl, rfl⟩
/-- the maker's things seen from within the def that got the lambda -/
theorem hide_den {g' : G} {L' : List Addr} {S' : Sto} {HZ : Hp} (hK : g'.K = g.K) (hmg : g'.mg = g.mg) (hW : g'.W = g.wr L) (h0 : g'.H0 = H) (has : g'.as = []) (r : RepS g L S H) (sl : SlDen g L H σd σ) (r' : RepS g' L' S' HZ) :
    SlDen ⟨g'.K, g'.mg, fun a => g.wr L a ∨ a ∈ L', HZ, []⟩ [] HZ (hideS σd) σ := by
  intro i d e
  obtain ⟨e1, nr⟩ := hide_get e
  obtain ⟨v, ev, dn⟩ := sl i d e1
  have kp : Kp (g.wr L) (G.wr ⟨g'.K, g'.mg, fun a => g.wr L a ∨ a ∈ L', HZ, []⟩ []) H HZ := by
    refine ⟨fun a o q n nt => ?_, fun a o q n w => ?_, fun a w xs => ?_⟩
    · exact r'.keep a o (by rw [h0]; exact q) nt (by rw [has]; simp)
    · rcases w with (w | w) | w
      · exact n w
      · have := r'.fresh a w (by rw [has]; simp)
        rw [h0, q] at this; cases this
      · exact (nomatch w)
    · exact (DL.kp r Ext.refl).tups a w xs
  refine ⟨v, ev, ?_⟩
  cases dn with
  | pd z => exact .pd (hK ▸ z.keep kp)
  | ref _ => exact absurd nr Bool.false_ne_true
  | glob z => exact .glob (by show g'.mg _ = _; rw [hmg]; exact z)
  | raw => exact .raw
  | xt q hd z => exact .xt (kp.keep _ _ q (fun w => (kp.tups _ w _).2 _ q) (by rintro ⟨_, z⟩; cases z)) hd (hK ▸ z.keep kp)
theorem hide_rep {g' : G} {L' : List Addr} {S' : Sto} {HZ : Hp} (hW : g'.W = g.wr L) (r' : RepS g' L' S' HZ) : RepS ⟨g'.K, g'.mg, fun a => g.wr L a ∨ a ∈ L', HZ, []⟩ [] [] HZ where
  nd := List.nodup_nil
  pre := List.prefix_refl _
  obs := .nil
  fresh := fun a h => (nomatch h)
  own := fun a h => (nomatch h)
  keep := fun a o e _ _ => e
  amb := fun a w => r'.wr_there (w.imp (fun z => by rw [hW]; exact z) id)
  asW := fun a h => (nomatch h)
  th0 := fun a o e => ⟨o, e⟩
  tabs := r'.tabs
end
section
variable {X : Cx} {pins : List (Addr × Obj)} {σ : L2.St} {H : Hp} {s : Shared}
abbrev lamBody (X : Cx) (scope : Scope) (f c' : Addr) (body : Expr) (j : Nat) (m : DM D) : Prop :=
  ∀ (A : Around) (outer : List Env) (s : Shared) (H : Hp) (E : XK) (gm : G), gm.K = X.K → gm.mg = X.mg → RoomG j (A.deeper (LamX.lamEnv X scope s.heap.objs.size f c')) → Takes (LamX.lamCx X A outer s H E scope f c') (fun c x _ H' => E c x H') →
    PE (LamX.lamCx X A outer s H E scope f c') body (T gm (fun c x _ H' => E c x H') m)
theorem act_lam {g : G} {L : List Addr} {S : Sto} {σd : Sl} {f c' : Addr} {params : Arguments} {body : Expr} {scope : Scope} {pm ctv : Value} {Ng : List Str} {qg a : Str} {sg : Scope} {gf : Addr} {cdg : Value} {Eg : XK} {i j : Nat} {m : DM D}
    (I : Inv X pins σ H s) (LS : LamX.LamS X.env.scope scope) (hf : s.heap.get? f = some (lamObj X params body scope pm c' ctv)) (hfn : H f = none) (hfr : f ∉ frs X.stack) (code : H c' = some (LamX.CodeO c' (X.env.qual ++ ("<lambda>" : Str))))
    (hbind : bindArgs (PySem.W.kla_fn "<lambda>" (X.env.qual ++ ("<lambda>" : Str)) params body scope (cloFrom X.env.cells scope.names []) pm (.ref c') ctv) ⟨[], []⟩ = pure [])
    (hK : X.K = g.K) (hmg : X.mg = g.mg) (r : RepS g L S H) (sl : SlDen g L H σd σ) (hr : RoomG (j + 1) (X.A.deeper (envOfC qg sg s.heap.objs.size gf cdg))) (hbody : lamBody X scope f c' body j m)
    (hN : Ng[i]? = some a) (hv : Vis sg a) (hdb : (a == ("__debug__" : Str)) = false) (hcd : (a == ("__classdict__" : Str)) = false) :
    Act (cxOf (L2.CX X.prog X.w) X.prog X.w X.K X.mg X.base Ng qg sg gf cdg X.A X.stack s H Eg) ⟨X.K, X.mg, g.wr L, H, []⟩ i a (.ref f) (thk m σd) := by
  intro W pn xe p1 p2 tk
  refine ⟨fun pinsZ sZ σZ HZ Q IZ h => ?_⟩
  obtain ⟨L', σd', S', r', sl', ev⟩ := h
  unfold eThk at ev
  split at ev
  case isFalse => exact ev.elim
  case isTrue hslot =>
  obtain ⟨vf, hvf, dvf⟩ := sl' i _ hslot
  cases dvf
  refine wpAny_Call_Name_kw (thn ((pe_var (pos := p1) hN hv hdb hcd).run pinsZ sZ σZ HZ (fun v H1 => v = .ref f ∧ H1 = HZ) IZ ⟨.ref f, hvf, rfl, rfl⟩) fun u s1 ⟨v, H1, I1, rv, ev1, eH⟩ => ?_)
  subst ev1 eH
  obtain rfl : u = Value.ref f := rv
  have atF : s1.heap.get? f = some (lamObj X params body scope pm c' ctv) := I1.base.keep f _ hf hfn hfr (fun z => nomatch (show f ∈ ([] : List Addr) from z))
  have un : Un (frs X.stack) [] H H1 s.heap s1.heap := I1.base
  have codeZ : H1 c' = some (LamX.CodeO c' (X.env.qual ++ ("<lambda>" : Str))) := r'.keep _ _ code (by rintro ⟨ps, z⟩; exact LamX.codeO_ne ps z) (fun z => nomatch (show c' ∈ ([] : List Addr) from z))
  obtain ⟨⟨oc, vs, t, hoc, hdc, hvc⟩, _, _⟩ := I1.hok c' _ codeZ
  refine PySem.W.callWith_F0 ⟨_, _, _, _, atF⟩ ?_
  have hx : PassesAt (L2.CX X.prog X.w) ((cxOf (L2.CX X.prog X.w) X.prog X.w X.K X.mg X.base Ng qg sg gf cdg X.A X.stack s H Eg).tr pn xe) σZ (WE W σZ) := passAt tk σZ
  have run : codeAny (model X.prog X.w) (X.A.deeper (envOfC qg sg s.heap.objs.size gf cdg)) (.call (.ref f) ⟨[], []⟩) (CR (L2.CX X.prog X.w) (envOfC qg sg s.heap.objs.size gf cdg :: X.stack) X.prog X.w H1 s1 Q (WE W σZ)) s1 := by
    refine PySem.W.kla_callFunE hr.rm.depth atF rfl LS.co LS.gen rfl ⟨c', oc, vs, t, rfl, hoc, hdc, hvc⟩ ?_
    rw [hbind]
    refine wpAny_pure (wpAny_newFunctionEnv (fun y hy => (LS.own y hy).2) (fun y hy => absurd hy (by simp)) (fun h1 hns hsb => ⟨I1.nolimit.fresh _ hsb, ?_⟩) LS.kind)
    show codeAny _ _ (.expr body (LamX.lamEnv X scope s1.heap.objs.size f c')) _ _
    have J := LamX.lam_start2 (A := X.A.deeper (envOfC qg sg s.heap.objs.size gf cdg)) (outer := envOfC qg sg s.heap.objs.size gf cdg :: X.stack) (E := WE W σZ) (f := f) (c' := c') (tk := s1.toks + ([] : List (Str × Value)).length) I LS I1.env0 hr.rm.hd un hns
      (fun b o e => hsb.extBut b o (Nat.ne_of_lt (Heap.lt_size e)) (Heap.get?_push_of_some _ e))
    have hp := hbody (X.A.deeper (envOfC qg sg s.heap.objs.size gf cdg)) (envOfC qg sg s.heap.objs.size gf cdg :: X.stack) s1 H1 (WE W σZ) ⟨X.K, X.mg, fun b => g.wr L b ∨ b ∈ L', H1, []⟩ rfl rfl (hr.deeper _)
      (takes_of rfl rfl rfl rfl)
    refine PySem.W.kla_codeExpr (wpAny_mono (hp.run [] _ σ H1 Q J ⟨[], hideS σd, [], hide_rep (g := g) (g' := ⟨X.K, X.mg, g.wr L, H, []⟩) rfl r', hide_den (g := g) (g' := ⟨X.K, X.mg, g.wr L, H, []⟩) hK hmg rfl rfl rfl r sl r', ?_⟩) (fun v s' hq => ?_) fun e s' hq => hq)
    · -- what the body comes to is what was told
      have back : ∀ {L2 : List Addr} {H2 : Hp}, Ext ⟨X.K, X.mg, fun b => g.wr L b ∨ b ∈ L', H1, []⟩ [] H1 L2 H2 → RepS ⟨X.K, X.mg, fun b => g.wr L b ∨ b ∈ L', H1, []⟩ L2 [] H2 →
          L2 = [] ∧ Ext ⟨X.K, X.mg, g.wr L, H, []⟩ L' H1 L' H2 ∧ RepS ⟨X.K, X.mg, g.wr L, H, []⟩ L' S' H2 := fun {L2 H2} x2 r2 => by
        have hL : L2 = [] := List.length_eq_zero_iff.mp (Paired.len r2.obs).symm
        subst hL
        refine ⟨rfl, ⟨List.prefix_refl _, fun _ h n => absurd h n, fun b o e nt _ => x2.keep b o e nt (by simp), x2.there⟩, r'.same (fun b o e nt => x2.keep b o e nt (by simp)) x2.there r2.tabs⟩
      have sub : ∀ b, G.wr ⟨X.K, X.mg, g.wr L, H, []⟩ L' b → G.wr ⟨X.K, X.mg, fun b => g.wr L b ∨ b ∈ L', H1, []⟩ [] b := fun b w => .inl w
      cases hR : thk m σd with
      | val d =>
        rw [hR] at ev
        obtain ⟨em, hn⟩ := thk_val hR
        rw [em]
        intro L2 H2 x2 r2 v dn
        obtain ⟨rfl, x3, r3⟩ := back x2 r2
        exact ev L' H2 x3 r3 v (dn.move (g := ⟨X.K, X.mg, fun b => g.wr L b ∨ b ∈ L', H1, []⟩) (g' := ⟨X.K, X.mg, g.wr L, H, []⟩) rfl rfl sub hn)
      | exc e =>
        rw [hR] at ev
        obtain ⟨σe, em, hn⟩ := thk_exc hR
        rw [em]
        intro L2 H2 c x σ3 x2 r2 _ ex
        obtain ⟨rfl, x3, r3⟩ := back x2 r2
        exact ev L' H2 c x σZ x3 r3 (sl'.ext r' x3) (ex.move (g := ⟨X.K, X.mg, fun b => g.wr L b ∨ b ∈ L', H1, []⟩) (g' := ⟨X.K, X.mg, g.wr L, H, []⟩) rfl rfl sub hn)
      | stuck => rw [hR] at ev; exact ev.elim
    · obtain ⟨w', H', J', rw', q⟩ := hq
      exact ⟨w', H', J'.os, J'.bare, J'.base, J'.hok, rw', q⟩
  refine wpAny_call (codeAny_mono run fun res s' hq => ?_)
  match res, hq with
  | .error e, hq => exact hx pinsZ H1 s1 e s' I1 hq
  | .ok (.ret u), hq => exact I1.after hq
  | .ok .next, hq => exact False.elim hq
  | .ok .brk, hq => exact False.elim hq
  | .ok .cont, hq => exact False.elim hq
end
end DL
end
section
set_option maxHeartbeats 1000000
namespace DL
open PySem PySem.Spec PyProof.Rows L2
/-! ### defs whose code object is known -/
def FunC (K : PySem.W.Frag) (x qual : Str) (st : Stmt) (f : Addr) (cdv : Value) : Prop := ∃ (oc : Value) (od : Option Addr) (kV doc pm : Value) (an : Option Addr) (ct : Value) (osl : Array (Option Value)),
  K.lookup f = some ⟨oc, od, .func (PySem.W.fnOf x qual (defArgs st) (defBody st) (defScope st) .none kV doc pm an cdv ct), osl⟩
/-- a def that makes lambdas: its place, its table -/
structure LamT (K : PySem.W.Frag) (x : Str) (f : Addr) : Prop where
  at_ : PySem.W.nsIn K mainGlobals x = some (some (.ref f))
  tab : (PySem.W.tabIn K x).isSome = true
theorem mem_of_lookup' {a : Addr} {o : Obj} : ∀ {K : PySem.W.Frag}, K.lookup a = some o → (a, o) ∈ K
  | [], h => by cases h
  | (b, u) :: r, h => by
    rw [List.lookup_cons] at h
    split at h
    · rename_i hb
      cases h
      rw [show a = b by simpa using hb]
      exact List.mem_cons_self
    · exact List.mem_cons_of_mem _ (mem_of_lookup' h)
theorem mkl_of {P : Program} {w : World} {K : PySem.W.Frag} {mg : Str → Option Value} {base : Heap} {x : Str} {st : Stmt} {f : Addr} {N : List Str} {cdv : Value} {CX : CXT} {A : Around} {outer : List Env} {s : Shared} {H : Hp} {E : XK} (B : BaseD K mg base) (t : LamT K x f) (C : FunC K x x st f cdv) :
    MkL (cxOf CX P w K mg base N x (defScope st) f cdv A outer s H E) := by
  obtain ⟨oc, od, kV, doc, pm, an, ct, osl, lk⟩ := C
  obtain ⟨q, hq⟩ := Option.isSome_iff_exists.mp t.tab
  obtain ⟨c, Q⟩ := q
  have hmem : x ∈ fnNames K := List.mem_filterMap.mpr ⟨_, mem_of_lookup' lk, rfl⟩
  have hcdv : cdv = .ref c := by
    unfold PySem.W.tabIn at hq
    rw [t.at_] at hq
    dsimp only at hq
    rw [lk] at hq
    dsimp only [PySem.W.fnOf] at hq
    split at hq
    · rename_i c2
      split at hq
      · split at hq
        · cases hq; rfl
        · cases hq
      · cases hq
    · cases hq
  exact ⟨⟨c, Q, hcdv, tabsK_iff.mpr ⟨x, hmem, c, hq, rfl⟩, B.tab x hmem c Q hq⟩, B.ok⟩
theorem Fun.okC {P : Program} {w : World} {K : PySem.W.Frag} {mg : Str → Option Value} {base : Heap} {x qual : Str} {st : Stmt} {f : Addr} {fd : FuncData} {N ps : List Str} {k : Nat} {sp : Sp} (F : Fun K x qual st f fd) (S : FnScope N ps (defScope st)) (len : ∀ vs H Q E, sp vs H Q E → vs.length = ps.length)
    (hbody : ∀ (cdv : Value) (A : Around) (outer : List Env) (s : Shared) (H : Hp) (vs : List V) (Q : VK) (E : XK), FunC K x qual st f cdv → RoomG k (A.deeper (envOfC qual (defScope st) s.heap.objs.size f cdv)) → sp vs H Q E →
      ∃ t, PSs (cxOf (L2.CX P w) P w K mg base N qual (defScope st) f cdv A outer s H E) (defBody st) t ∧ t { nx := fun _ H' => Q .non H', rt := Q } (start N vs) H) : FnG P w K mg base (k + 1) f fd ps sp := by
  obtain ⟨oc, od, kV, doc, pm, an, cdv, ct, osl, rfl, lk, hcd⟩ := F.ex
  have hC : FunC K x qual st f cdv := ⟨oc, od, kV, doc, pm, an, ct, osl, lk⟩
  refine ⟨len, fun A outer s H args us vs Q E hr e0 hb r hsp => ?_⟩
  have hl := len _ _ _ _ hsp
  have KX : K.In s.heap := e0.mod.kin.keeps fun b o e => (e0.bs b o e).1
  have lim : s.heap.NoLimit := e0.mod.nolimit.keeps fun b o e => (e0.bs b o e).1
  have hkind : ∀ y ∈ ps.zip us, (defScope st).names.lookup y.1 = some .local ∨ ((defScope st).names.lookup y.1 = some .cell ∧ ((cellsFrom (s.heap.objs.size + 1) (defScope st).names []).lookup y.1).isSome = true) := by
    rintro ⟨n, v⟩ hy
    exact (S.par n (List.of_mem_zip hy).1).elim .inl fun q => .inr ⟨q, PySem.W.cellsFrom_some _ _ _ (.inl q)⟩
  refine codeAny_call_function hr.rm.depth (KX _ _ lk) rfl S.co S.gen rfl (PySem.W.codeRec_of KX hcd) (hb _ _ _ _ (wpAny_newFunctionEnv_cells S.kind hkind fun env he s1 x => ?_))
  subst he
  refine ⟨lim.keeps x.toInCall.keep, codeAny_func ?_⟩
  obtain ⟨t, ht, hq⟩ := hbody cdv A outer s H vs Q E hC (hr.deeper _) hsp
  have I := inv_start (CX := L2.CX P w) (E := E) S hr.rm.hd e0 hl r x
  refine wpAny_mono (ht.run [] s1 (start N vs) H _ I hq) (fun fl s' hs => ?_) fun e s' hs => hs
  cases fl with
  | ret u =>
    obtain ⟨v, σ', H', J, rv, q⟩ := hs
    exact ⟨v, H', J.os, J.bare, J.base, J.hok, rv, q⟩
  | next =>
    obtain ⟨σ', H', J, q⟩ := hs
    exact ⟨V.non, H', J.os, J.bare, J.base, J.hok, rfl, q⟩
  | brk =>
    obtain ⟨_, _, _, q⟩ := hs
    exact q.elim
  | cont =>
    obtain ⟨_, _, _, q⟩ := hs
    exact q.elim
theorem runF_ok {K : PySem.W.Frag} {mg : Str → Option Value} {W : Addr → Prop} {H : Hp} {as : List Addr} {N : List Str} {m : DM Fl} {ds : List D} {vs : List V} {S : Sto} {Q : VK} {E : XK} (rp : RepS ⟨K, mg, W, H, as⟩ as S H) (dn : Dens ⟨K, mg, W, H, as⟩ as H ds vs)
    (ev : Ev ⟨K, mg, W, H, as⟩ (fun c x _ H' => E c x H') as H (runF N.length m ds S) (PV ⟨K, mg, W, H, as⟩ Q)) : TSt ⟨K, mg, W, H, as⟩ (fun c d _ H => E c d H) m { nx := fun _ H' => Q .non H', rt := Q } (start N vs) H := by
  refine ⟨as, startD N.length ds, S, rp, startD_sl dn, ?_⟩
  have hS : S.length = as.length := Paired.len rp.obs
  unfold runF at ev
  cases em : m (startD N.length ds) S with
  | ok fl S' =>
    rw [em] at ev
    have done : ∀ d, Ev ⟨K, mg, W, H, as⟩ (fun c x _ H' => E c x H') as H (fin S.length d S') (PV ⟨K, mg, W, H, as⟩ Q) →
        ∀ L' H', Ext ⟨K, mg, W, H, as⟩ as H L' H' → RepS ⟨K, mg, W, H, as⟩ L' S' H' → ∀ v, Den ⟨K, mg, W, H, as⟩ L' H' d v → Q v H' := by
      intro d ev L' H' x r v dn'
      unfold fin at ev
      split at ev
      · rename_i d' ed
        split at ev
        · rename_i hp
          rw [hS] at ev ed hp
          exact ev as H' x.trim (r.trim hp) v (frz_ok rfl r dn' ed)
        · exact ev.elim
      · exact ev.elim
    cases fl with
    | ret d => exact fun L' H' x r v dn' => done d ev L' H' x r v dn'
    | next σ => exact fun L' H' x r σ _ => done .non ev L' H' x r .non (.pd .non)
    | brk σ => exact ev.elim
    | cont σ => exact ev.elim
  | exc e σ S' =>
    rw [em] at ev
    dsimp only at ev
    split at ev
    · rename_i hp
      rw [hS] at ev hp
      intro L' H' c x σ y r sl ex
      exact ev as H' c x [] y.trim (r.trim hp.1) (fun i d z => by simp at z) (ex.move rfl rfl (fun b w => w.imp id fun z => mem_pre r.pre z) hp.2)
    · exact ev.elim
  | stuck => rw [em] at ev; exact ev.elim
/-- a def that makes lambdas -/
theorem Fun.dlC {P : Program} {w : World} {K : PySem.W.Frag} {mg : Str → Option Value} {base : Heap} {x : Str} {st : Stmt} {f : Addr} {fd : FuncData} {N ps : List Str} {k : Nat} {m : DM Fl} (F : Fun K x x st f fd) (Sc : FnScope N ps (defScope st)) (B : BaseD K mg base) (t : LamT K x f)
    (hb : ∀ (cdv : Value) (A : Around) (outer : List Env) (s : Shared) (H : Hp) (E : XK) (W : Addr → Prop) (as : List Addr), MkL (cxOf (L2.CX P w) P w K mg base N x (defScope st) f cdv A outer s H E) → RoomG k (A.deeper (envOfC x (defScope st) s.heap.objs.size f cdv)) →
      PSs (cxOf (L2.CX P w) P w K mg base N x (defScope st) f cdv A outer s H E) (defBody st) (TSt ⟨K, mg, W, H, as⟩ (fun c d _ H => E c d H) m)) :
    FnG P w K mg base (k + 1) f fd ps (spM K mg ps.length (runF N.length m)) := by
  refine Fun.okC F Sc (fun vs H Q E h => h.1) (fun cdv A outer s H vs Q E hC hr h => ?_)
  obtain ⟨hl, W, as, ds, S, rp, dn, ev⟩ := h
  exact ⟨_, hb cdv A outer s H E W as (mkl_of B t hC) hr, runF_ok rp dn ev⟩
/-! ### defs that get a lambda -/
abbrev DT := V → TR → DF
/-- what a def promises of a lambda handed to it; i: its slot -/
structure FnT (P : Program) (w : World) (K : PySem.W.Frag) (mg : Str → Option Value) (base : Heap) (k : Nat) (x : Str) (f : Addr) (fd : FuncData) (a : Str) (N : List Str) (sc : Scope) (fm : DT) : Prop where
  nm : N[0]? = some a
  vis : Vis sc a
  hdb : (a == ("__debug__" : Str)) = false
  hcd : (a == ("__classdict__" : Str)) = false
  run : ∀ (A : Around) (outer : List Env) (s : Shared) (H : Hp) (l : Addr) (R : TR) (W : Addr → Prop) (Q : VK) (E : XK), RoomG k A → Env0 P w K mg base A outer s H → BindsTo s fd ⟨[.ref l], []⟩ [(a, .ref l)] → RepS ⟨K, mg, W, H, []⟩ [] [] H →
    (∀ cdv, Act (cxOf (L2.CX P w) P w K mg base N x sc f cdv A outer s H E) ⟨K, mg, W, H, []⟩ 0 a (.ref l) R) →
    Ev ⟨K, mg, W, H, []⟩ (fun c x _ H' => E c x H') [] H (fm (.ref l) R [.raw (.ref l)] []) (PV ⟨K, mg, W, H, []⟩ Q) →
    codeAny (model P w) A (.call (.ref f) ⟨[.ref l], []⟩) (CR (L2.CX P w) outer P w H s Q E) s
theorem FnT.mono {P : Program} {w : World} {K : PySem.W.Frag} {mg : Str → Option Value} {base : Heap} {j k : Nat} {x a : Str} {f : Addr} {fd : FuncData} {N : List Str} {sc : Scope} {fm : DT} (F : FnT P w K mg base j x f fd a N sc fm) (h : j ≤ k) : FnT P w K mg base k x f fd a N sc fm :=
  ⟨F.nm, F.vis, F.hdb, F.hcd, fun A outer s H l R W Q E hr => F.run A outer s H l R W Q E (hr.mono h)⟩
theorem Fun.dlT {P : Program} {w : World} {K : PySem.W.Frag} {mg : Str → Option Value} {base : Heap} {x a : Str} {st : Stmt} {f : Addr} {fd : FuncData} {N : List Str} {k : Nat} {m : V → TR → DM Fl} (F : Fun K x x st f fd) (Sc : FnScope N [a] (defScope st)) (hN : N[0]? = some a) (hv : Vis (defScope st) a)
    (hb : ∀ (cdv : Value) (A : Around) (outer : List Env) (s : Shared) (H : Hp) (E : XK) (W : Addr → Prop) (l : Addr) (R : TR), RoomG k (A.deeper (envOfC x (defScope st) s.heap.objs.size f cdv)) →
      Act (cxOf (L2.CX P w) P w K mg base N x (defScope st) f cdv A outer s H E) ⟨K, mg, W, H, []⟩ 0 a (.ref l) R →
      PSs (cxOf (L2.CX P w) P w K mg base N x (defScope st) f cdv A outer s H E) (defBody st) (TSt ⟨K, mg, W, H, []⟩ (fun c d _ H => E c d H) (m (.ref l) R)))
    (hdb : (a == ("__debug__" : Str)) = false := by decide) (hcd : (a == ("__classdict__" : Str)) = false := by decide) :
    FnT P w K mg base (k + 1) x f fd a N (defScope st) (fun v R => runF N.length (m v R)) := by
  refine ⟨hN, hv, hdb, hcd, fun A outer s H l R W Q E hr e0 hbi rp hact ev => ?_⟩
  obtain ⟨oc, od, kV, doc, pm, an, cdv, ct, osl, rfl, lk, hcdv⟩ := F.ex
  have rv : Vals [V.ref l] [Value.ref l] := .cons rfl .nil
  have KX : K.In s.heap := e0.mod.kin.keeps fun b o e => (e0.bs b o e).1
  have lim : s.heap.NoLimit := e0.mod.nolimit.keeps fun b o e => (e0.bs b o e).1
  have hkind : ∀ y ∈ [(a, Value.ref l)], (defScope st).names.lookup y.1 = some .local ∨ ((defScope st).names.lookup y.1 = some .cell ∧ ((cellsFrom (s.heap.objs.size + 1) (defScope st).names []).lookup y.1).isSome = true) := by
    intro y hy
    obtain rfl : y = (a, Value.ref l) := by simpa using hy
    exact (Sc.par a (by simp)).elim .inl fun q => .inr ⟨q, PySem.W.cellsFrom_some _ _ _ (.inl q)⟩
  refine codeAny_call_function hr.rm.depth (KX _ _ lk) rfl Sc.co Sc.gen rfl (PySem.W.codeRec_of KX hcdv) (hbi _ _ _ _ (wpAny_newFunctionEnv_cells Sc.kind hkind fun env he s1 x => ?_))
  subst he
  refine ⟨lim.keeps x.toInCall.keep, codeAny_func ?_⟩
  have ht := hb cdv A outer s H E W l R (hr.deeper _) (hact cdv)
  have I := inv_start (CX := L2.CX P w) (E := E) (ps := [a]) (us := [.ref l]) (vs := [.ref l]) Sc hr.rm.hd e0 rfl rv x
  refine wpAny_mono (ht.run [] s1 (start N [.ref l]) H _ I (runF_ok rp (.cons .raw .nil) ev)) (fun fl s2 hs => ?_) fun e s2 hs => hs
  cases fl with
  | ret u =>
    obtain ⟨v, σ', H', J, rv2, q⟩ := hs
    exact ⟨v, H', J.os, J.bare, J.base, J.hok, rv2, q⟩
  | next =>
    obtain ⟨σ', H', J, q⟩ := hs
    exact ⟨V.non, H', J.os, J.bare, J.base, J.hok, rfl, q⟩
  | brk => obtain ⟨_, _, _, q⟩ := hs; exact q.elim
  | cont => obtain ⟨_, _, _, q⟩ := hs; exact q.elim
structure CalT (P : Program) (w : World) (K : PySem.W.Frag) (mg : Str → Option Value) (base : Heap) (k : Nat) (x a : Str) (N : List Str) (sc : Scope) (fm : DT) : Prop where
  ex : ∃ (f : Addr) (fd : FuncData), FnT P w K mg base k x f fd a N sc fm ∧ mg x = some (.ref f) ∧ PySem.W.keepIn K (.ref f) = true ∧ Binds K fd [a] []
theorem CalT.mono {P : Program} {w : World} {K : PySem.W.Frag} {mg : Str → Option Value} {base : Heap} {j k : Nat} {x a : Str} {N : List Str} {sc : Scope} {fm : DT} (c : CalT P w K mg base j x a N sc fm) (h : j ≤ k := by decide) : CalT P w K mg base k x a N sc fm :=
  let ⟨f, fd, F, r⟩ := c.ex
  ⟨f, fd, F.mono h, r⟩
open Classical in
/-- x(lambda: ..) -/
noncomputable def eLam (fm : DT) (m : DM D) : DM D := fun σ S => if ∀ v, fm v (thk m σ) [.raw v] [] = fm .non (thk m σ) [.raw .non] [] then (match fm .non (thk m σ) [.raw .non] [] with
  | .ok d [] => if noRef d = true then .ok d S else .stuck
  | .exc e _ [] => if (e.fs.all fun p => noRef p.2) = true then .exc e σ S else .stuck
  | _ => .stuck) else .stuck
section
variable {X : Cx} {g : G} {E : WX} {m : DM D}
theorem px_lam {x a : Str} {N : List Str} {sc : Scope} {fm : DT} {j : Nat} {params : Arguments} {body : Expr} {scope : Scope} {p lpos pos : Pos} (C : CalT X.prog X.w X.K X.mg X.base (j + 2) x a N sc fm) (M : MkL X) (hr : RoomG (j + 2) X.A) (hg : Gl X x) (hK : X.K = g.K) (hmg : X.mg = g.mg) (tk : Takes X E)
    (LS : LamX.LamS X.env.scope scope) (hdef : defaultsOf params X.env = ([], []))
    (hbind : ∀ (q : Str) (cl : List (Str × Addr)) (pm cv ctv : Value), bindArgs (PySem.W.kla_fn "<lambda>" q params body scope cl pm cv ctv) ⟨[], []⟩ = pure [])
    (hbody : ∀ f c', lamBody X scope f c' body j m) (hdb : (x == ("__debug__" : Str)) = false := by decide) :
    PE X (.Call (.Name x p) [.Lambda params body scope lpos] [] pos) (T g E (eLam fm m)) := by
  obtain ⟨gf, fd, F, hm, hk, hb⟩ := C.ex
  refine ⟨fun pins s σ H Q I h => ?_⟩
  obtain ⟨L, σd, S, r, sl, ev⟩ := h
  refine wpAny_Call_Name_kw (ld_glob I hg hm ?_ hdb)
  refine PySem.W.callWith_K (h₀ := X.base) I.ok.mod.kin hk ?_ (by rfl) (by rfl)
  show wpAny _ _ (spliced ((false, eval (.Lambda params body scope lpos) X.env) :: backTo pos (starEach [] X.env))) _ _ s
  refine Calls.spliced_cons (lam_new I M (hK ▸ r.tabs) hdef LS fun f c' pm ctv H1 s' I1 lh hf hfn hfr => ?_)
  refine Calls.spliced_nil ⟨I1.kIn, ?_⟩
  have r1 : RepS g L S H1 := r.same lh.keep lh.there (hK ▸ lh.tabs)
  have sl1 : SlDen g L H1 σd σ := sl.ext r lh.ext
  have hx : PassesAt (L2.CX X.prog X.w) X σ (WE E σ) := passAt tk σ
  have hbi := hb s' [.ref f] I1.kIn rfl
  rw [List.append_nil] at hbi
  have r0 : RepS ⟨X.K, X.mg, g.wr L, H1, []⟩ [] [] H1 := by
    have := call_rep (idx := []) (os := []) r1 List.nodup_nil rfl rfl
    rw [hK, hmg]
    exact this
  refine wpAny_call (codeAny_mono (F.run X.A X.stack s' H1 f (thk m σd) (g.wr L) Q (WE E σ) hr I1.env0 hbi r0 (fun cdv => act_lam I1 LS hf hfn hfr lh.code (hbind _ _ _ _ _) hK hmg r1 sl1 ((hr.deeper _).mono (Nat.le_refl _)) (hbody f c') F.nm F.vis F.hdb F.hcd) ?_) fun res s2 hq => ?_)
  · unfold eLam at ev
    split at ev
    case isFalse => exact ev.elim
    case isTrue hv =>
    rw [hv (.ref f)]
    split at ev
    · rename_i d e
      rw [e]
      split at ev
      · rename_i hn
        intro L2 H2 x2 r2 v dn
        obtain ⟨rfl, x3, r3⟩ := call_back (idx := []) (os := []) (S2 := []) r1 List.nodup_nil rfl rfl rfl (by
          have := x2
          rw [hK, hmg] at this
          exact this) (by
          have := r2
          rw [hK, hmg] at this
          exact this)
        have lift : Ext g L H1 L H2 := x3
        exact ev L H2 (lh.ext.trans lift) r3 v (dn.move (g := ⟨X.K, X.mg, g.wr L, H1, []⟩) (g' := g) hK.symm hmg.symm (fun b w => .inl w) hn)
      · exact ev.elim
    · rename_i e σe q
      rw [q]
      split at ev
      · rename_i hn
        intro L2 H2 c y σ3 x2 r2 _ ex
        obtain ⟨rfl, x3, r3⟩ := call_back (idx := []) (os := []) (S2 := []) r1 List.nodup_nil rfl rfl rfl (by
          have := x2
          rw [hK, hmg] at this
          exact this) (by
          have := r2
          rw [hK, hmg] at this
          exact this)
        have lift : Ext g L H1 L H2 := x3
        exact ev L H2 c y σ (lh.ext.trans lift) r3 (sl.ext r (lh.ext.trans lift)) (ex.move (g := ⟨X.K, X.mg, g.wr L, H1, []⟩) (g' := g) hK.symm hmg.symm (fun b w => .inl w) hn)
      · exact ev.elim
    · exact ev.elim
  · match res, hq with
    | .error e, hq => exact hx pins H1 s' e s2 I1 hq
    | .ok (.ret u), hq => exact I1.after hq
    | .ok .next, hq => exact False.elim hq
    | .ok .brk, hq => exact False.elim hq
    | .ok .cont, hq => exact False.elim hq
end
end DL
end
section
set_option maxHeartbeats 1000000
/-! try: .. except (X, Y, Z) as n: .. -/
namespace L2
open PySem PySem.Spec PyProof.Rows
theorem flying_more {B : Heap} {l : List Env} {a : Addr} {Z : Obj → Prop} {h h' : Heap} (x : HandSPX.FlyingZ B l a Z h) (k : ∀ b o, h.get? b = some o → h'.get? b = some o) : HandSPX.FlyingZ B l a Z h' := by
  obtain ⟨f1, f2, f3, oe, vs, T, oT, ts, he, hz, hd, h1, hn, hne, hT, hdT, h3⟩ := x
  exact ⟨fun b o q => k b o (f1 b o q), f2, f3.of_keeps fun b o q _ => ⟨o, k b o q, rfl⟩, oe, vs, T, oT, ts, k _ _ he, hz, hd, h1, hn, hne, k _ _ hT, hdT, h3⟩
/-- the one clause names three classes, one of which the exception is -/
def wTup (K : PySem.W.Frag) (cs : List Value) (ts : Addr → Value → Option Addr → TS) (i : Nat) (D : Ends) : WX := fun cls d σ H =>
  PySem.W.exmAny K cls cs = some true ∧ ∀ a, H a = none → i < σ.length → ts a cls d (offEnds i D) (σ.set i (some (.ref a))) H
section
variable {X : Cx} {body : List Stmt} {pos : Pos} {tb : WX → TS} {Wout : WX}
theorem ps_tryT {x1 x2 x3 n : Str} {i kk : Nat} {c1 c2 c3 : Value} {ts : Addr → Value → Option Addr → TS} {b₀ : Stmt} {suite : List Stmt} {p1 p2 p3 tpos pos' : Pos} (hs : X.stack = X.env :: X.outer) (hf : X.env.frame = some X.env.locals) (hN : X.N.Nodup) (tk : Takes X Wout)
    (hb : ∀ (W : WX) (pn : List (Addr × Obj)) (xe : Value → Shared → Prop), Takes (X.tr pn xe) W → PassesOwn (model X.prog X.w) X.A X.env xe → PSs (X.tr pn xe) body (tb W))
    (n1 : Names X x1 c1) (n2 : Names X x2 c2) (n3 : Names X x3 c3) (hi : X.N[i]? = some n) (hln : X.env.kindOf n = some .local)
    (hsu : ∀ (a : Addr) (oe : Obj) (cls : Value) (d : Option Addr) (pn : List (Addr × Obj)), Zc cls d oe → (∃ vs, oe.data = .fields vs) → PSs (X.suite a ((a, oe) :: pn)) (b₀ :: suite) (ts a cls d)) :
    PS X (.Try body [.ExceptHandler (some (.Tuple [.Name x1 p1, .Name x2 p2, .Name x3 p3] kk tpos)) (some n) (b₀ :: suite) pos'] [] [] pos) (fun D σ H => tb (wTup X.K [c1, c2, c3] ts i D) D σ H) := by
  refine ⟨fun pins s σ H D I h => ?_⟩
  have ok := I.ok
  have hfr : X.A.frames = some (X.env :: X.outer) := by rw [ok.frames, hs]
  refine wpAny_Try_except ?_
  refine wpAny_mono ((hb (wTup X.K [c1, c2, c3] ts i D) (X.pn ++ pins) _ (fun u s' xx => ?_) PassesOwn.looking).run [] s σ H D (I.toTry _) h) (fun f s1 hsp => ?_) (fun e s1 he => he)
  · obtain ⟨a, B, sI, pins', σ', H', cls, d, rfl, J', nb, up, sky, na, os, ag, w⟩ := xx
    have J : Inv X pins σ' H' sI := J'.ofTry ok
    have sky' : Sky B (X.env :: X.outer) a (Zc cls d) X.env.locals s'.heap := by rw [← hs]; exact sky
    show wpAny (model X.prog X.w) X.A (noteFrame (.ref a) X.env) _ _ _
    refine Sky.land Zc.steady hfr hf sky' fun h3 fl3 up3 => ?_
    have J3 : Inv X pins σ' H' { s' with heap := h3 } := J.landed nb fl3.1 (up.trans up3) os ag
    obtain ⟨oe3, vs3, he3, hz3, hd3⟩ := fl3.there
    have nfr : a ∉ frs (X.env :: X.outer) := fun hm => by
      obtain ⟨_, o', e', hnf⟩ := fl3.2.2.1.mem hm
      rw [he3] at e'
      cases e'
      exact hnf _ hd3
    have nL : a ≠ X.env.locals := fun z => nfr (List.mem_filterMap.mpr ⟨X.env, List.mem_cons_self, by rw [hf, z]⟩)
    have nF : a ∉ X.fs := fun hm => by
      obtain ⟨e, he, q⟩ := List.mem_filterMap.mp hm
      exact nfr (List.mem_filterMap.mpr ⟨e, List.mem_cons_of_mem _ he, q⟩)
    have S3 := J3.suite he3 hd3 na nL nF
    have test : ∀ {x : Str} {c : Value} {np : Pos} {Q : Value → Shared → Prop} {E : Value → Shared → Prop}, Names X x c → Q c { s' with heap := h3 } → wpAny (model X.prog X.w) (X.A.mark (some (.ref a))) (eval (.Name x np) X.env) Q E { s' with heap := h3 } := fun {x c np Q E} hc q => by
      obtain ⟨hg, hdbg, hm | ⟨hm, hv, hnn⟩⟩ := hc
      · exact ld_glob (X := X.suite a ((a, oe3) :: (X.pn ++ pins))) S3 hg hm q hdbg
      · exact ld_blt (X := X.suite a ((a, oe3) :: (X.pn ++ pins))) S3 hg hm hv q hnn hdbg
    obtain ⟨hx, hyes⟩ := w
    let h5 := h3.push { cls := .type "tuple", data := .seq [c1, c2, c3].toArray }
    have kp : ∀ q o, h3.get? q = some o → h5.get? q = some o := fun _ _ z => Heap.get?_push_of_some _ z
    have up5 : h3.UpToSlots h5 := Heap.UpToSlots.of_keeps kp
    have fl5 : HandSPX.FlyingZ B (X.env :: X.outer) a (Zc cls d) h5 := flying_more fl3 kp
    have LT : PySem.W.Looks (model X.prog X.w) h5 (typeOf (.ref a)) cls := fun A Q E s k q => wpAny_typeOf_ref (k _ _ (kp _ _ he3)) (by rw [hz3.1]; exact q)
    have LM := PySem.W.exm_tup3 (M := model X.prog X.w) (J3.kIn.keeps kp) LT (Heap.get?_push_size h3 rfl) hx
    refine wpAny_handleBy_cons (codeAny_handlers_test ?_) (by intro q; cases q)
    refine wpAny_Tuple ?_
    refine wpAny_items_cons (test n1 ?_)
    refine wpAny_items_cons (test n2 ?_)
    refine wpAny_items_cons (test n3 ?_)
    refine wpAny_items_nil ⟨by size_fits, ?_⟩
    show wpAny _ _ (excMatches (.ref a) (.ref h3.objs.size)) _ _ { s' with heap := h5 }
    refine LM.here ?_
    refine codeAny_handlers_suite_as (HandSPX.lands_againZ fl5 fun h4 fl4 up4 => ?_)
    have J4 : Inv X pins σ' H' { s' with heap := h4 } := J.landed nb fl4.1 (((up.trans up3).trans up5).trans up4) os ag
    obtain ⟨oe4, vs4, he4, hz4, hd4⟩ := fl4.there
    have S4 := J4.suite he4 hd4 na nL nF
    refine store_ok (X := X.suite a ((a, oe4) :: (X.pn ++ pins))) (v := .ref a) S4 hN hi (.inl hln) rfl (fun s5 S5 => ?_) (.inr hln)
    refine wpAny_mono ((hsu a oe4 cls d (X.pn ++ pins) hz4 ⟨_, hd4⟩).run [] s5 _ H' _ S5 (hyes a na (by rw [J.len]; exact (List.getElem?_eq_some_iff.mp hi).1))) (fun f s6 hsp => ?_) (fun _ _ z => False.elim z)
    cases f with
    | ret u =>
      obtain ⟨v6, σ6, H6, S6, r6, q6⟩ := hsp
      exact gone_ok (S6.unsuite ok) hN hi hln fun s7 J7 => ⟨_, _, _, J7, r6, q6⟩
    | _ =>
      obtain ⟨σ6, H6, S6, q6⟩ := hsp
      exact gone_ok (S6.unsuite ok) hN hi hln fun s7 J7 => ⟨_, _, J7, q6⟩
  · cases f with
    | next =>
      obtain ⟨σ', H', J', q⟩ := hsp
      exact wpAny_execs_nil ⟨σ', H', J'.ofTry ok, q⟩
    | ret u =>
      obtain ⟨v, σ', H', J', r, q⟩ := hsp
      exact ⟨v, σ', H', J'.ofTry ok, r, q⟩
    | _ =>
      obtain ⟨σ', H', J', q⟩ := hsp
      exact ⟨σ', H', J'.ofTry ok, q⟩
end
end L2
end
section
set_option maxHeartbeats 1000000
/-! the suite of an except clause that looks at the exception -/
namespace DL
open PySem PySem.Spec PyProof.Rows L2
/-- the ground of a suite: all that the store has is there already -/
def G.at (g : G) (L : List Addr) (H : Hp) : G := ⟨g.K, g.mg, g.wr L, H, L⟩
section
variable {g g' : G} {L L' : List Addr} {S S' : Sto} {H H' : Hp} {σd : Sl} {σ : L2.St} {d : D} {v : V}
theorem Den.reg (hK : g'.K = g.K) (hm : g'.mg = g.mg) (i : ∀ a, g'.wr L a → g.wr L a) (h : Den g L H d v) : Den g' L H d v := by
  cases h with
  | pd h => exact .pd (hK ▸ h.anti i)
  | ref h => exact .ref h
  | glob h => exact .glob (by rw [hm]; exact h)
  | raw => exact .raw
  | xt e hd z => exact .xt e hd (hK ▸ z.anti i)
theorem SlDen.reg (hK : g'.K = g.K) (hm : g'.mg = g.mg) (i : ∀ a, g'.wr L a → g.wr L a) (h : SlDen g L H σd σ) : SlDen g' L H σd σ := fun j d e =>
  let ⟨v, e2, dn⟩ := h j d e
  ⟨v, e2, dn.reg hK hm i⟩
theorem ObDen.reg {ob : Ob} {a : Addr} (hK : g'.K = g.K) (hm : g'.mg = g.mg) (i : ∀ a, g'.wr L a → g.wr L a) (h : ObDen g L H a ob) : ObDen g' L H a ob := by
  cases h with
  | lst e q => exact .lst e (Paired.imp q fun _ _ z => z.reg hK hm i)
  | dct e q => exact .dct e (Paired.imp q fun _ _ z => ⟨z.1, z.2.reg hK hm i⟩)
  | dtt e q => exact .dtt e (Paired.imp q fun _ _ z => ⟨z.1, z.2.reg hK hm i⟩)
  | ins c e q => exact .ins (by rw [hm]; exact c) e (Paired.imp q fun _ _ z => ⟨z.1, z.2.reg hK hm i⟩)
theorem at_in {L0 : List Addr} {H0 : Hp} (p : L0 <+: L) {a : Addr} : (g.at L0 H0).wr L a ↔ g.wr L a :=
  ⟨fun w => w.elim (fun w => w.imp id fun z => mem_pre p z) .inr, fun w => w.imp .inl id⟩
theorem RepS.atIn (r : RepS g L S H) : RepS (g.at L H) L S H where
  nd := r.nd
  pre := List.prefix_refl _
  obs := Paired.imp r.obs fun ob a d => ObDen.reg (g := g) (g' := g.at L H) rfl rfl (fun b w => (at_in (g := g) (List.prefix_refl L)).mp w) d
  fresh := fun a h n => absurd h n
  own := fun a h n => absurd h n
  keep := fun a o e _ _ => e
  amb := fun a w => r.wr_there w
  asW := fun a h => .inr h
  th0 := fun a o e => ⟨o, e⟩
  tabs := r.tabs
theorem Ext.gnd (x : Ext g' L H L' H') : Ext g L H L' H' := ⟨x.pre, x.new, x.keep, x.there⟩
theorem RepS.atOut (r : RepS g L S H) (x : Ext (g.at L H) L H L' H') (r' : RepS (g.at L H) L' S' H') : RepS g L' S' H' where
  nd := r'.nd
  pre := r.pre.trans x.pre
  obs := Paired.imp r'.obs fun ob a d => ObDen.reg (g := g.at L H) (g' := g) rfl rfl (fun b w => (at_in (g := g) x.pre).mpr w) d
  fresh := fun a h n => by
    by_cases hL : a ∈ L
    · exact r.fresh a hL n
    · cases q : g.H0 a with
      | none => rfl
      | some o => exact (r.h0 (x.new a h hL) o q).elim
  own := fun a h n => by
    by_cases hL : a ∈ L
    · exact r.own a hL n
    · exact fun w => r.free (x.new a h hL) (.inl w)
  keep := fun a o e nt n => by
    have h1 := r.keep a o e nt n
    by_cases hL : a ∈ L
    · have := r.fresh a hL n
      rw [e] at this; cases this
    · exact r'.keep a o h1 nt hL
  amb := fun a w => r'.amb a (.inl w)
  asW := r.asW
  th0 := fun a o e => by
    obtain ⟨o1, e1⟩ := r.th0 a o e
    exact r'.th0 a o1 e1
  tabs := r'.tabs
/-- data that stood at the entry stands still -/
theorem dz_later {x : PyData} (n0 : ∀ a, g.W a → ∀ xs, g.H0 a ≠ some (.tup xs) ∧ ∀ o, g.H0 a ≠ some (.frz o (.tup xs))) (r : RepS g L S H) (z : Dz g.K g.W g.H0 v x) : Dz g.K (g.wr L) H v x := by
  refine z.keep ⟨fun a o e n nt => r.keep a o e nt fun h => n (r.asW a h), fun a o e n w => ?_, n0⟩
  rcases w with w | w
  · exact n w
  · by_cases h : a ∈ g.as
    · exact n (r.asW a h)
    · have := r.fresh a w h
      rw [e] at this; cases this
/-- what is known of the exception that a suite holds -/
structure ExIn (g : G) (e : Exn) (cls : Value) (dd : Option Addr) : Prop where
  cls : ∃ y A, e.cls = .own y ∧ g.mg y = some (.ref A) ∧ cls = .ref A
  n0 : ∀ a, g.W a → ∀ xs, g.H0 a ≠ some (.tup xs) ∧ ∀ o, g.H0 a ≠ some (.frz o (.tup xs))
  fld : match dd with
    | none => e.fs = []
    | some dx => ∃ ws, g.H0 dx = some (.xd ws) ∧ dx ∉ g.as ∧ Paired (fun (p : Str × D) (q : Str × V) => p.1 = q.1 ∧ ∀ x, p.2 = .pd x → Dz g.K g.W g.H0 q.2 x) e.fs ws
theorem exIn_at {e : Exn} {y : Str} {cls : Value} {dd : Option Addr} (r : RepS g L S H) (ey : e.cls = .own y) (x : ExDen g L H e cls dd) : ExIn (g.at L H) e cls dd := by
  have n0 : ∀ a, (g.at L H).W a → ∀ xs, (g.at L H).H0 a ≠ some (.tup xs) ∧ ∀ o, (g.at L H).H0 a ≠ some (.frz o (.tup xs)) := fun a w xs => by
    obtain ⟨o, q, nt⟩ := r.wr_there w
    refine ⟨fun z => ?_, fun ob z => ?_⟩
    · have z' : H a = some (.tup xs) := z
      rw [q] at z'; cases z'
      exact nt.no_tup _ rfl
    · have z' : H a = some (.frz ob (.tup xs)) := z
      rw [q] at z'; cases z'
      exact nt.no_frz _ _ rfl
  have hc : ∀ {c}, ClsIs g e.cls c → ∃ y A, e.cls = .own y ∧ (g.at L H).mg y = some (.ref A) ∧ c = .ref A := fun {c} q => by
    rw [ey] at q
    obtain ⟨A, h1, h2⟩ := q
    exact ⟨y, A, ey, h1, h2⟩
  cases x with
  | none q e0 => exact ⟨hc q, n0, e0⟩
  | @some dx ws q hd pr =>
    refine ⟨hc q, n0, ws, hd, fun hm => ?_, Paired.imp pr fun p q z => ⟨z.1, fun x ex => ?_⟩⟩
    · obtain ⟨ob, _, od⟩ := Paired.mem_right r.obs dx hm
      cases od with
      | lst e2 _ => rw [hd] at e2; cases e2
      | dct e2 _ => rw [hd] at e2; cases e2
      | dtt e2 _ => rw [hd] at e2; cases e2
      | ins _ e2 _ => rw [hd] at e2; cases e2
    · have dn := z.2
      rw [ex] at dn
      cases dn with
      | pd h => exact h
end
/-! ### the suite's run -/
def postS (i : Nat) : Out Fl → Out Fl
  | .ok (.next σ) S => .ok (.next (σ.set i none)) S
  | .ok (.brk σ) S => .ok (.brk (σ.set i none)) S
  | .ok (.cont σ) S => .ok (.cont (σ.set i none)) S
  | .ok (.ret d) S => .ok (.ret d) S
  | _ => .stuck
open Classical in
noncomputable def runS (i : Nat) (ms : V → DM Fl) : DM Fl := fun σ S =>
  if ∀ v, postS i (ms v (σ.set i (some (.raw v))) S) = postS i (ms .non (σ.set i (some (.raw .non))) S) then postS i (ms .non (σ.set i (some (.raw .non))) S) else .stuck
section
variable {g : G} {L L' : List Addr} {S S' : Sto} {H H' : Hp} {σd : Sl} {σ : L2.St} {d : D} {v : V}
theorem SlDen.setN (h : SlDen g L H σd σ) (i : Nat) : SlDen g L H (σd.set i none) (σ.set i none) := fun j d e => by
  by_cases hj : i = j
  · subst hj
    rw [List.getElem?_set] at e
    split at e
    · split at e <;> cases e
    · rename_i z; exact absurd rfl z
  · rw [List.getElem?_set_ne hj] at e
    obtain ⟨v, e2, dn⟩ := h j d e
    exact ⟨v, by rw [List.getElem?_set_ne hj]; exact e2, dn⟩
theorem SlDen.setR (h : SlDen g L H σd σ) {i : Nat} (hi : i < σ.length) (v : V) : SlDen g L H (σd.set i (some (.raw v))) (σ.set i (some v)) := fun j d e => by
  by_cases hj : i = j
  · subst hj
    rw [List.getElem?_set] at e
    split at e
    · split at e
      · cases e
        exact ⟨v, List.getElem?_set_self hi, .raw⟩
      · cases e
    · rename_i z; exact absurd rfl z
  · rw [List.getElem?_set_ne hj] at e
    obtain ⟨w, e2, dn⟩ := h j d e
    exact ⟨w, by rw [List.getElem?_set_ne hj]; exact e2, dn⟩
theorem runS_ok {E : WX} {i : Nat} {ms : V → DM Fl} {Dn : Ends} (r : RepS g L S H) (ev : Ev g E L H (runS i ms σd S) (PF g Dn)) (v : V) : Ev (g.at L H) noW L H (ms v (σd.set i (some (.raw v))) S) (PF (g.at L H) (offEnds i Dn)) := by
  unfold runS at ev
  split at ev
  case isFalse => exact ev.elim
  case isTrue hv =>
  rw [← hv v] at ev
  cases em : ms v (σd.set i (some (.raw v))) S with
  | exc e σ2 S2 => rw [em] at ev; exact ev.elim
  | stuck => rw [em] at ev; exact ev.elim
  | ok fl S2 =>
    rw [em] at ev
    intro M2 H2 x2 r2
    have rr := r.atOut x2 r2
    have down : ∀ {d : D} {u : V}, Den (g.at L H) M2 H2 d u → Den g M2 H2 d u := fun h => h.reg (g := g.at L H) (g' := g) rfl rfl fun b w => (at_in (g := g) x2.pre).mpr w
    have downS : ∀ {σa : Sl} {σb : L2.St}, SlDen (g.at L H) M2 H2 σa σb → SlDen g M2 H2 σa σb := fun h j d e => let ⟨u, e2, dn⟩ := h j d e; ⟨u, e2, down dn⟩
    cases fl with
    | next σ2 => exact fun σb sl => ev M2 H2 x2.gnd rr _ ((downS sl).setN i)
    | brk σ2 => exact fun σb sl => ev M2 H2 x2.gnd rr _ ((downS sl).setN i)
    | cont σ2 => exact fun σb sl => ev M2 H2 x2.gnd rr _ ((downS sl).setN i)
    | ret d => exact fun u dn => ev M2 H2 x2.gnd rr u (down dn)
end
/-- what a suite asks of the hand layer -/
def tsG (X : Cx) (i : Nat) (ms : Exn → V → DM Fl) : Addr → Value → Option Addr → TS := fun a cls dd Dn σ H => ∃ (g : G) (e : Exn) (L : List Addr) (σd : Sl) (S : Sto), g.K = X.K ∧ g.mg = X.mg ∧ ExIn g e cls dd ∧ RepS g L S H ∧ SlDen g L H σd σ ∧ Ev g noW L H (ms e (.ref a) σd S) (PF g Dn)
/-- the derivation of a suite -/
def SuiteOk (X : Cx) (ms : Exn → V → DM Fl) (b₀ : Stmt) (suite : List Stmt) : Prop := ∀ (a : Addr) (oe : Obj) (cls : Value) (dd : Option Addr) (pn : List (Addr × Obj)) (g : G) (e : Exn), g.K = X.K → g.mg = X.mg → Zc cls dd oe → (∃ vs, oe.data = .fields vs) → ExIn g e cls dd →
  PSs (X.suite a ((a, oe) :: pn)) (b₀ :: suite) (TSt g noW (ms e (.ref a)))
section
variable {X : Cx} {g : G} {E : WX}
theorem suite_ts {ms : Exn → V → DM Fl} {b₀ : Stmt} {suite : List Stmt} {i : Nat} (h : SuiteOk X ms b₀ suite) (a : Addr) (oe : Obj) (cls : Value) (dd : Option Addr) (pn : List (Addr × Obj)) (hz : Zc cls dd oe) (hf : ∃ vs, oe.data = .fields vs) :
    PSs (X.suite a ((a, oe) :: pn)) (b₀ :: suite) (tsG X i ms a cls dd) :=
  ⟨fun pins s σ H Dn I ⟨g, e, L, σd, S, hK, hmg, hx, r, sl, ev⟩ => (h a oe cls dd pn g e hK hmg hz hf hx).run pins s σ H Dn I ⟨L, σd, S, r, sl, ev⟩⟩
theorem tsG_of {e : Exn} {y : Str} {ms : Exn → V → DM Fl} {i : Nat} {Dn : Ends} {L : List Addr} {H : Hp} {S : Sto} {σd : Sl} {σ : L2.St} {cls : Value} {dd : Option Addr} (hK : X.K = g.K) (hmg : X.mg = g.mg) (r : RepS g L S H) (sl : SlDen g L H σd σ) (ey : e.cls = .own y) (ex : ExDen g L H e cls dd)
    (ev : Ev g E L H (runS i (ms e) σd S) (PF g Dn)) (a : Addr) (hi : i < σ.length) : tsG X i ms a cls dd (offEnds i Dn) (σ.set i (some (.ref a))) H :=
  ⟨g.at L H, e, L, _, S, hK.symm, hmg.symm, exIn_at r ey ex, r.atIn, (SlDen.reg (g := g) (g' := g.at L H) rfl rfl (fun b w => (at_in (g := g) (List.prefix_refl L)).mp w) sl).setR hi (.ref a), runS_ok r ev (.ref a)⟩
/-- try: .. except (x1, x2, x3) as n: .. -/
noncomputable def sTryT (ks : List (Str × Bool)) (i : Nat) (ms : Exn → V → DM Fl) (m : DM Fl) : DM Fl := fun σ S => match m σ S with
  | .exc e σ' S' => (match e.cls with
    | .own y => (match ks.lookup y with
      | some true => runS i (ms e) σ' S'
      | _ => .stuck)
    | _ => .stuck)
  | o => o
/-- which classes are among these three -/
inductive Exm3 (K : PySem.W.Frag) (mg : Str → Option Value) (z1 z2 z3 : Str) : List (Str × Bool) → Prop
  | nil : Exm3 K mg z1 z2 z3 []
  | cons {y : Str} {b1 b2 b3 : Bool} {r : List (Str × Bool)} : ExmD K mg y z1 b1 → ExmD K mg y z2 b2 → ExmD K mg y z3 b3 → Exm3 K mg z1 z2 z3 r → Exm3 K mg z1 z2 z3 ((y, b1 || (b2 || b3)) :: r)
theorem Exm3.get {K : PySem.W.Frag} {mg : Str → Option Value} {z1 z2 z3 : Str} {C1 C2 C3 : Addr} (h1 : mg z1 = some (.ref C1)) (h2 : mg z2 = some (.ref C2)) (h3 : mg z3 = some (.ref C3)) : ∀ {ks : List (Str × Bool)}, Exm3 K mg z1 z2 z3 ks → ∀ {y : Str} {b : Bool}, ks.lookup y = some b →
    ∃ A, mg y = some (.ref A) ∧ PySem.W.exmAny K (.ref A) [.ref C1, .ref C2, .ref C3] = some b
  | _, .nil, y, b, h => by cases h
  | _, .cons (y := y') (b1 := b1) (b2 := b2) (b3 := b3) e1 e2 e3 t, y, b, e => by
    rw [List.lookup_cons] at e
    split at e
    · rename_i hy
      cases e
      rw [show y = y' by simpa using hy]
      obtain ⟨A, B1, a1, a2, a3⟩ := e1
      obtain ⟨A2, B2, q1, q2, q3⟩ := e2
      obtain ⟨A3, B3, r1, r2, r3⟩ := e3
      rw [h1] at a2; cases a2
      rw [h2] at q2; cases q2
      rw [h3] at r2; cases r2
      rw [a1] at q1 r1
      cases q1; cases r1
      refine ⟨A, a1, ?_⟩
      show (match PySem.W.exmOne K (.ref A) (.ref C1), PySem.W.exmAny K (.ref A) [.ref C2, .ref C3] with
        | some b, some d => some (b || d)
        | _, _ => none) = _
      have z3 : PySem.W.exmAny K (.ref A) [.ref C3] = some (b3 || false) := by
        show (match PySem.W.exmOne K (.ref A) (.ref C3), (some false : Option Bool) with
          | some b, some d => some (b || d)
          | _, _ => none) = _
        rw [r3]
      have z2 : PySem.W.exmAny K (.ref A) [.ref C2, .ref C3] = some (b2 || (b3 || false)) := by
        show (match PySem.W.exmOne K (.ref A) (.ref C2), PySem.W.exmAny K (.ref A) [.ref C3] with
          | some b, some d => some (b || d)
          | _, _ => none) = _
        rw [q3, z3]
      rw [a3, z2]
      simp
    · exact t.get h1 h2 h3 e
theorem qs_tryT {x1 x2 x3 n : Str} {i kk : Nat} {ks : List (Str × Bool)} {m : DM Fl} {ms : Exn → V → DM Fl} {body : List Stmt} {b₀ : Stmt} {suite : List Stmt} {p1 p2 p3 tpos pos' pos : Pos} (hK : X.K = g.K) (hmg : X.mg = g.mg) (hst : X.stack = X.env :: X.outer) (hf : X.env.frame = some X.env.locals) (hN : X.N.Nodup) (tk : Takes X E)
    (hx : Exm3 X.K X.mg x1 x2 x3 ks) (c1 : ∃ C, X.mg x1 = some (.ref C)) (c2 : ∃ C, X.mg x2 = some (.ref C)) (c3 : ∃ C, X.mg x3 = some (.ref C)) (g1 : Gl X x1) (g2 : Gl X x2) (g3 : Gl X x3) (hi : X.N[i]? = some n) (hln : X.env.kindOf n = some .local)
    (hb : ∀ (W : WX) (pn : List (Addr × Obj)) (xe : Value → Shared → Prop), Takes (X.tr pn xe) W → PSs (X.tr pn xe) body (TSt g W m))
    (hsu : SuiteOk X ms b₀ suite) (d1 : (x1 == ("__debug__" : Str)) = false := by decide) (d2 : (x2 == ("__debug__" : Str)) = false := by decide) (d3 : (x3 == ("__debug__" : Str)) = false := by decide) :
    PS X (.Try body [.ExceptHandler (some (.Tuple [.Name x1 p1, .Name x2 p2, .Name x3 p3] kk tpos)) (some n) (b₀ :: suite) pos'] [] [] pos) (TSt g E (sTryT ks i ms m)) := by
  obtain ⟨C1, c1⟩ := c1
  obtain ⟨C2, c2⟩ := c2
  obtain ⟨C3, c3⟩ := c3
  refine PS.imp (ps_tryT (tb := fun W => TSt g W m) (ts := tsG X i ms) (Wout := E) hst hf hN tk (fun W pn xe tk' _ => hb W pn xe tk') ⟨g1, d1, .inl c1⟩ ⟨g2, d2, .inl c2⟩ ⟨g3, d3, .inl c3⟩ hi hln (fun a oe cls dd pn hz hf => suite_ts hsu a oe cls dd pn hz hf)) ?_
  rintro Dn σ H ⟨L, σd, S, rp, sl, ev⟩
  refine ⟨L, σd, S, rp, sl, ?_⟩
  unfold sTryT at ev
  cases em : m σd S with
  | ok f S' => rw [em] at ev; exact ev
  | stuck => rw [em] at ev; exact ev.elim
  | exc e σ' S' =>
    rw [em] at ev
    dsimp only at ev
    split at ev
    · rename_i y ey
      split at ev
      · rename_i hl
        obtain ⟨A, hA, hm⟩ := hx.get c1 c2 c3 hl
        intro L' H' c x σ2 x1 r1 sl1 ex
        have hc : c = .ref A := by
          cases ex with
          | none q _ => rw [ey] at q; obtain ⟨A', h1, rfl⟩ := q; rw [← hmg, hA] at h1; cases h1; rfl
          | some q _ _ => rw [ey] at q; obtain ⟨A', h1, rfl⟩ := q; rw [← hmg, hA] at h1; cases h1; rfl
        subst hc
        exact ⟨hm, fun a _ hi2 => tsG_of hK hmg r1 sl1 ey ex (Ev.of x1 ev) a hi2⟩
      · exact ev.elim
    · exact ev.elim
noncomputable def runO (i : Nat) (ms : Exn → V → DM Fl) (e : Exn) : DM Fl := fun σ S => match e.cls with
  | .own _ => runS i (ms e) σ S
  | .bt _ => .stuck
theorem hdl_gen {z n : Str} {i : Nat} {ks : List (Str × Bool)} {ms : Exn → V → DM Fl} {b₀ : Stmt} {suite : List Stmt} {np pos' : Pos} {hds : List ExceptHandler} {hs : List HSp} (hK : X.K = g.K) (hmg : X.mg = g.mg) (hz : ∃ C, X.mg z = some (.ref C)) (h : ExmsD X.K X.mg z ks) (hgz : Gl X z) (hi : X.N[i]? = some n) (hln : X.env.kindOf n = some .local)
    (hsu : SuiteOk X ms b₀ suite) (r : HdL X g hds hs) (hdb : (z == ("__debug__" : Str)) = false := by decide) :
    HdL X g (.ExceptHandler (some (.Name z np)) (some n) (b₀ :: suite) pos' :: hds) (⟨ks, runO i ms⟩ :: hs) := by
  obtain ⟨C, hC⟩ := hz
  obtain ⟨l, r1, r2⟩ := r
  refine ⟨⟨.ref C, some i, tsG X i ms⟩ :: l, .named hi hln ⟨hgz, hdb, .inl hC⟩ (fun a oe cls dd pn hz hf => suite_ts hsu a oe cls dd pn hz hf) r1, .cons ⟨exms_cls h hC, fun e Dn L H S σd σ cls dd a rp sl ex ha ev hok hi2 => ?_⟩ r2⟩
  have ev' : Ev g noW L H (runO i ms e σd S) (PF g Dn) := ev
  unfold runO at ev'
  cases q : e.cls with
  | own y => rw [q] at ev'; exact tsG_of hK hmg rp sl q ex ev' a hi2
  | bt k => rw [q] at ev'; exact ev'.elim
end
end DL
end
section
set_option maxHeartbeats 1000000
/-! isinstance(n, C), n.f of the exception n that a suite holds -/
namespace DL
open PySem PySem.Spec PyProof.Rows L2
/-- what an own exception's class must say -/
structure ExK (K : PySem.W.Frag) (A : Addr) : Prop where
  hcl : (PySem.W.clsIn K A).isSome = true
  hga : PySem.W.findIn K (.ref A) "__getattribute__" = some (some (.builtin "BaseException.__getattribute__"))
  hgt : PySem.W.findIn K (.ref A) "__getattr__" = some none
  hsub : PySem.W.subIn K (.ref A) (.type "BaseException") = some true
  hac : PySem.W.findIn K (.ref A) "__class__" = some (some (.builtin "object.__class__"))
  hn : PySem.W.specialIn K (.builtin "object.__class__") "__get__" = some (some (.builtin "getset_descriptor.__get__"))
  htk : PySem.W.takesIn K (.builtin "object.__class__") = some true
  hm : PySem.W.mroIn K A (.type "object") = some true
inductive IssD (K : PySem.W.Frag) (mg : Str → Option Value) (z : Str) : List (Str × Bool) → Prop
  | nil : IssD K mg z []
  | cons {y : Str} {b : Bool} {A B : Addr} {r : List (Str × Bool)} : mg y = some (.ref A) → mg z = some (.ref B) → ExK K A → PySem.W.kitOne K (.ref A) (.ref B) = some b → IssD K mg z r → IssD K mg z ((y, b) :: r)
theorem IssD.get {K : PySem.W.Frag} {mg : Str → Option Value} {z : Str} : ∀ {ks : List (Str × Bool)}, IssD K mg z ks → ∀ {y : Str} {b : Bool}, ks.lookup y = some b → ∃ A B, mg y = some (.ref A) ∧ mg z = some (.ref B) ∧ ExK K A ∧ PySem.W.kitOne K (.ref A) (.ref B) = some b
  | _, .nil, y, b, h => by cases h
  | _, .cons (y := y') h1 h2 h3 h4 t, y, b, e => by
    rw [List.lookup_cons] at e
    split at e
    · rename_i hy
      cases e
      rw [show y = y' by simpa using hy]
      exact ⟨_, _, h1, h2, h3, h4⟩
    · exact t.get e
def isEx (ks : List (Str × Bool)) (e : Exn) : Option Bool := match e.cls with
  | .own y => ks.lookup y
  | _ => none
open Classical in
noncomputable def eExIs (i : Nat) (v : V) (ob : Option Bool) : DM D := fun σ S => if σ[i]? = some (some (.raw v)) then (match ob with
  | some b => .ok (.bl b) S
  | none => .stuck) else .stuck
open Classical in
/-- n.f; ys: the classes whose instances have it -/
noncomputable def eExF (i : Nat) (v : V) (ys : List Str) (f : Str) (e : Exn) : DM D := fun σ S => if σ[i]? = some (some (.raw v)) then (match e.cls, e.fs with
  | .own y, [(f', .pd d)] => if y ∈ ys ∧ f' = f then .ok (.pd d) S else .stuck
  | _, _ => .stuck) else .stuck
section
variable {X : Cx} {g : G} {E : WX} {a : Addr} {oe : Obj} {cls : Value} {dd : Option Addr} {pn : List (Addr × Obj)} {e : Exn} {i : Nat} {n : Str}
def rExIs (K : PySem.W.Frag) (a : Addr) (cls : Value) (dd : Option Addr) : List V → Hp → VK → Prop := fun xs H Q => ∃ (A B : Addr) (b : Bool), xs = [.ref a, .ref B] ∧ cls = .ref A ∧ ExK K A ∧ PySem.W.kitOne K (.ref A) (.ref B) = some b ∧ (∀ dx, dd = some dx → ∃ ws, H dx = some (.xd ws)) ∧ Q (.bl b) H
theorem call_exIs (hz : Zc cls dd oe) (hf : ∃ vs, oe.data = .fields vs) : CallR (X.suite a ((a, oe) :: pn)) (.builtin "isinstance") (rExIs X.K a cls dd) := by
  intro pins s σ H xs us Q I r h
  obtain ⟨A, B, b, rfl, rfl, k, hk, hdx, q⟩ := h
  cases r with
  | cons ra rr =>
    cases rr with
    | cons rb rr =>
      cases rr
      cases ra
      cases rb
      obtain ⟨hget, _⟩ := I.pin (a, oe) (List.mem_append.mpr (.inl List.mem_cons_self))
      obtain ⟨vs, hv⟩ := hf
      have fin : ∀ {od : Option Obj}, PySem.W.InstAt s.heap a oe A od → wpAny (model X.prog X.w) (X.suite a ((a, oe) :: pn)).A (call (.builtin "isinstance") [.ref a, .ref B]) (EP (X.suite a ((a, oe) :: pn)) pins σ Q) (X.suite a ((a, oe) :: pn)).xe s := fun {od} J =>
        PySem.W.kia_one (PySem.W.kitx_exc k.hcl k.hga k.hgt k.hsub k.hac k.hn k.htk k.hm) I.kIn J hk (fun z => nomatch z) fun tk => ⟨.bl b, H, I.kept (t' := tk) fun _ _ z => z, rfl, q⟩
      have no : PySem.W.notCls oe = true := by unfold PySem.W.notCls; rw [hv] <;> rfl
      cases dd with
      | none => exact fin (od := none) ⟨hget, hz.1, no, by rw [hz.2]; trivial⟩
      | some dx =>
        obtain ⟨ws, hw⟩ := hdx dx rfl
        obtain ⟨mA, hns, _⟩ := I.hok dx _ hw
        obtain ⟨od, ho, _⟩ := lookIn_ns hns
        exact fin (od := some od) ⟨hget, hz.1, no, by rw [hz.2]; exact ho⟩
theorem px_exIs {z : Str} {ks : List (Str × Bool)} {p p1 p2 pos : Pos} (hx : ExIn g e cls dd) (hz : Zc cls dd oe) (hf : ∃ vs, oe.data = .fields vs) (hmg : g.mg = X.mg) (hi : IssD X.K X.mg z ks) (hgz : Gl X z) (hgi : Gl X "isinstance") (hni : X.mg "isinstance" = none)
    (hN : X.N[i]? = some n) (hv : Vis X.env.scope n) (hd : (n == ("__debug__" : Str)) = false := by decide) (hcd : (n == ("__classdict__" : Str)) = false := by decide) (hdz : (z == ("__debug__" : Str)) = false := by decide) :
    PE (X.suite a ((a, oe) :: pn)) (.Call (.Name "isinstance" p) [.Name n p1, .Name z p2] [] pos) (T g E (eExIs i (.ref a) (isEx ks e))) := by
  refine ⟨fun pins s σ H Q I ⟨L, σd, S, r, sl, ev⟩ => ?_⟩
  unfold eExIs at ev
  split at ev
  case isFalse => exact ev.elim
  case isTrue hs =>
  obtain ⟨v, hsv, dv⟩ := sl i _ hs
  cases dv
  obtain ⟨y, A, ey, hA, rfl⟩ := hx.cls
  unfold isEx at ev
  rw [ey] at ev
  dsimp only at ev
  split at ev
  · rename_i b hl
    obtain ⟨A2, B, h1, h2, k, hk⟩ := hi.get hl
    rw [← hmg, hA] at h1
    cases h1
    refine (pe_callB (X := X.suite a ((a, oe) :: pn)) (call_exIs hz hf) hgi hni rfl (pa_cons (pe_var (i := i) hN hv hd hcd) (pa_cons (pe_glob (v := .ref B) hgz h2 rfl hdz) pa_nil))).run pins s σ H Q I ?_
    refine ⟨.ref a, hsv, A, B, b, rfl, rfl, k, hk, fun dx hdx => ?_, fin_val r ev (.pd (.bl b))⟩
    have hq := hx.fld
    subst hdx
    obtain ⟨ws, hw, hn, _⟩ := hq
    exact ⟨ws, r.keep _ _ hw (by rintro ⟨_, z⟩; cases z) hn⟩
  · exact ev.elim
theorem px_exF {f : Str} {ys : List Str} {p1 pos : Pos} (hx : ExIn g e cls dd) (hz : Zc cls dd oe) (hf : ∃ vs, oe.data = .fields vs) (hmg : g.mg = X.mg) (hy : ∀ y ∈ ys, XfD X.K X.mg y f)
    (hN : X.N[i]? = some n) (hv : Vis X.env.scope n) (hb : attributeBase (.Name n p1) f X.env (eval (.Name n p1) X.env) = eval (.Name n p1) X.env := by rfl) (hd : (n == ("__debug__" : Str)) = false := by decide) (hcd : (n == ("__classdict__" : Str)) = false := by decide) :
    PE (X.suite a ((a, oe) :: pn)) (.Attribute (.Name n p1) f pos) (T g E (eExF i (.ref a) ys f e)) := by
  refine ⟨fun pins s σ H Q I ⟨L, σd, S, r, sl, ev⟩ => ?_⟩
  unfold eExF at ev
  split at ev
  case isFalse => exact ev.elim
  case isTrue hs =>
  obtain ⟨v, hsv, dv⟩ := sl i _ hs
  cases dv
  obtain ⟨y, A, ey, hA, rfl⟩ := hx.cls
  rw [ey] at ev
  split at ev
  · rename_i y' f' d ey' efs
    cases ey'
    split at ev
    · rename_i hc
      obtain ⟨hyy, rfl⟩ := hc
      obtain ⟨C, hC, T1, hno⟩ := hy _ hyy
      rw [← hmg, hA] at hC
      cases hC
      have hq := hx.fld
      cases dd with
      | none => rw [show e.fs = [] from hq] at efs; cases efs
      | some dx =>
        obtain ⟨ws, hw, hn, pr⟩ := hq
        rw [efs] at pr
        cases pr with
        | cons p1 p2 =>
          cases p2
          rename_i w
          obtain ⟨fn, u⟩ := w
          obtain ⟨rfl, dz⟩ := p1
          have hH : H dx = some (.xd [(f', u)]) := r.keep _ _ hw (by rintro ⟨_, z⟩; cases z) hn
          exact (pe_xf T1 hno hz hf (pe_var (X := X.suite a ((a, oe) :: pn)) (i := i) hN hv hd hcd) hb).run pins s σ H Q I ⟨.ref a, hsv, rfl, rfl, dx, _, u, rfl, hH, by simp [List.lookup], fin_val r ev (.pd (dz_later hx.n0 r (dz d rfl)))⟩
    · exact ev.elim
  · exact ev.elim
end
end DL
end
section
/-! repr of data with empty dicts in it; count and index of a list -/
namespace DL
open PySem PySem.Spec PyProof.Rows L2
mutual
def onlyE : PyData → Bool
  | .list xs => onlyEAll xs
  | .tuple xs => onlyEAll xs
  | .dict kvs => kvs.isEmpty
  | _ => true
def onlyEAll : List PyData → Bool
  | [] => true
  | x :: r => onlyE x && onlyEAll r
end
/-- the modules' dict stands in this heap -/
def SysD (h : Heap) : Prop := ∃ o es ep, h.get? sysModules = some o ∧ o.data = .dict es ep
section
variable {X : Cx} {pins : List (Addr × Obj)} {σ : L2.St} {H : Hp} {s : Shared}
theorem sys_later (I : Inv X pins σ H s) (h : SysD X.base) : SysD s.heap := by
  obtain ⟨o, es, ep, e, d⟩ := h
  exact ⟨o, es, ep, I.bk _ _ e, d⟩
mutual
theorem readsD {W : Addr → Prop} (I : Inv X pins σ H s) (h : SysD s.heap) : ∀ (d : PyData) (v : V) (u : Value), Dz X.K W H v d → onlyE d = true → RelV v u → ∃ as, Reads s.heap u d as ∧ sysModules ∉ as
  | .none, _, _, z, _, r => by
    cases z
    cases r
    exact ⟨_, .none, by simp⟩
  | .bool b, _, _, z, _, r => by
    cases z
    cases r
    exact ⟨_, .bool b, by simp⟩
  | .int i, _, _, z, _, r => by
    cases z
    obtain ⟨t, rfl⟩ := r
    exact ⟨_, .int i t, by simp⟩
  | .str x, _, _, z, _, r => by
    cases z
    obtain ⟨t, rfl⟩ := r
    exact ⟨_, .str x t, by simp⟩
  | .list ds, _, _, z, oe, r => by
    cases z with
    | lst nw hs ha =>
      cases r
      obtain ⟨its, rv, ⟨o, n, ho, hc, _, hd⟩, _⟩ := I.list (.inl hs)
      obtain ⟨as, hr, ns⟩ := readsAllD I h ds _ its ha (by simpa [onlyE] using oe) rv
      refine ⟨_, .list ho hc hd hr, fun hm => ?_⟩
      rcases List.mem_cons.mp hm with e | hm
      · obtain ⟨o', es, ep, e', d'⟩ := h
        rw [e, ho] at e'
        cases e'
        rw [hd] at d'; cases d'
      · exact ns hm
  | .tuple ds, _, _, z, oe, r => by
    cases z with
    | tup hs ha =>
      cases r
      obtain ⟨its, rv, ⟨o, ho, hc, n, hd⟩, _⟩ := I.tuple hs
      obtain ⟨as, hr, ns⟩ := readsAllD I h ds _ its ha (by simpa [onlyE] using oe) rv
      exact ⟨_, .tuple ho hc hd hr, ns⟩
  | .dict kvs, _, _, z, oe, r => by
    have hk : kvs = [] := by simpa [onlyE] using oe
    subst hk
    generalize hz : (PyData.dict []) = dd at z
    cases z with
    | non => cases hz
    | bl _ => cases hz
    | int _ => cases hz
    | str _ => cases hz
    | lst _ _ _ => cases hz
    | tup _ _ => cases hz
    | @dct a ws ks ds nw hs h1 h2 =>
      cases r
      have hn : ks.zip ds = [] := by
        injection hz with hz
        exact hz.symm
      have l1 : ws.length = ks.length := by have := h1.len; simpa using this
      have l2 : ws.length = ds.length := by have := h2.len; simpa using this
      have hw : ws = [] := by
        have hm : min ks.length ds.length = 0 := by rw [← List.length_zip, hn]; rfl
        exact List.length_eq_zero_iff.mp (by omega)
      subst hw
      obtain ⟨_, lo, vs, kv, o, es, ep, ho, hx, hd, _, pr, _⟩ := dk_rd I.hok hs
      cases kv
      have he : es.toList = [] := by
        generalize es.toList = l at pr
        cases pr
        rfl
      rw [hn]
      refine ⟨[a] ++ [] ++ [], .dict (kvs := []) (as := []) (bs := []) ho hx.1 hd (by rw [he]; exact .nil) (by rw [he]; exact .nil), fun hm => ?_⟩
      have e : sysModules = a := by simpa using hm
      rw [← e] at lo
      simp at lo
theorem readsAllD {W : Addr → Prop} (I : Inv X pins σ H s) (h : SysD s.heap) : ∀ (ds : List PyData) (vs : List V) (us : List Value), DzAll X.K W H vs ds → onlyEAll ds = true → Vals vs us → ∃ as, ReadsAll s.heap us ds as ∧ sysModules ∉ as
  | [], _, _, z, _, r => by
    cases z
    cases r
    exact ⟨_, .nil, by simp⟩
  | d :: ds, _, _, z, oe, r => by
    cases z with
    | cons z1 z2 =>
      cases r with
      | cons r1 r2 =>
        have oe' : onlyE d = true ∧ onlyEAll ds = true := by simpa [onlyEAll, Bool.and_eq_true] using oe
        obtain ⟨as, q1, n1⟩ := readsD I h d _ _ z1 oe'.1 r1
        obtain ⟨bs, q2, n2⟩ := readsAllD I h ds _ _ z2 oe'.2 r2
        exact ⟨_, .cons q1 q2, fun hm => (List.mem_append.mp hm).elim n1 n2⟩
end
end
section
variable {X : Cx} {g : G} {E : WX}
def reprOkD (x : PyData) : Bool := onlyE x && x.showable && decide (x.depth ≤ 60) && decide (x.shown.length ≤ sizeLine)
def fReprD : LF := fun ds S => match ds with
  | [.pd x] => if x.hasDict = true then (if reprOkD x = true then .ok (.str x.shown) S else .stuck) else fRepr [.pd x] S
  | _ => fRepr ds S
theorem cx_reprD (hk : X.K = g.K) (hu : X.A.units + 64 < cLine) (hgd : X.A.guards = some []) (hs : SysD X.base) : CallX X g (.builtin "repr") fReprD := by
  intro E pins s σ H xs us Q I r h
  obtain ⟨L, S, ds, rp, dn, ev⟩ := h
  unfold fReprD at ev
  split at ev
  · rename_i x
    split at ev
    · rename_i hd
      split at ev
      · rename_i ho
        unfold reprOkD at ho
        simp only [Bool.and_eq_true, decide_eq_true_eq] at ho
        obtain ⟨⟨⟨h1, h2⟩, h3⟩, h4⟩ := ho
        cases dn with
        | cons d1 d2 =>
          cases d2
          cases d1 with
          | pd z =>
            obtain ⟨u, rfl, ru⟩ := vals1 r
            have fin : ∀ {u tk h'}, (∀ b o, s.heap.get? b = some o → h'.get? b = some o) → EP X pins σ Q (.str x.shown u) { s with heap := h', toks := tk } := fun {u tk h'} k =>
              ⟨.str x.shown, H, I.kept k, ⟨u, rfl⟩, fin_val rp ev (.pd (.str _))⟩
            obtain ⟨as, rd, ns⟩ := readsD I (sys_later I hs) x _ u (hk ▸ z) h1 ru
            have go : ∀ {a}, u = Value.ref a → wpAny (model X.prog X.w) X.A (call (.builtin "repr") [u]) (EP X pins σ Q) X.xe s := fun {a} e => by
              subst e
              exact repr_of_reads' rd h2 (fun _ => ns) hgd (by omega) (fun _ _ e => e) (fun h' u tk k => fin k) h4
            cases z with
            | lst _ _ _ => cases ru; exact go rfl
            | tup _ _ => cases ru; exact go rfl
            | dct _ _ _ _ => cases ru; exact go rfl
            | non => simp [PyData.hasDict] at hd
            | bl _ => simp [PyData.hasDict] at hd
            | int _ => simp [PyData.hasDict] at hd
            | str _ => simp [PyData.hasDict] at hd
      · exact ev.elim
    · exact cx_repr hk hu hgd E pins s σ H xs us Q I r ⟨L, S, _, rp, dn, ev⟩
  · exact cx_repr hk hu hgd E pins s σ H xs us Q I r ⟨L, S, _, rp, dn, ev⟩
variable {o e : Expr} {es : List Expr} {mo : DM D} {ml : DM (List D)} {apos cpos : Pos}
/-- l.count(x), x a truth -/
def rCntP (K : PySem.W.Frag) (x : V) (xs : List V) (H : Hp) (Q : VK) : Prop := ∃ (a : Addr) (vs : List V) (ds : List PyData) (b : Bool), x = .ref a ∧ SqL K H a vs ∧ xs = [.bl b] ∧ DpAll K H vs ds ∧ PyData.plainAll ds = true ∧ Q (.int (ds.countP fun y => PyData.eqv y (.bool b) : Nat)) H
theorem mt_cntP (hu : X.A.units + 64 < cLine) : MtR X "list.count" (rCntP X.K) := by
  intro pins s σ H x xs v us Q I rx rxs h
  obtain ⟨a, vs, ds, b, rfl, hs, rfl, z, hp, q⟩ := h
  cases rx
  obtain ⟨its, rv, pl, _⟩ := I.list hs
  obtain ⟨as, ra⟩ := Dp.readsAll I _ _ _ z rv
  obtain ⟨u, rfl, ru⟩ := vals1 rxs
  obtain ⟨bs, rb⟩ := Dp.reads I _ _ u (.bl b) ru
  have hdp : (PyData.bool b).depth ≤ 1 := by simp [PyData.depth]
  have hmin : min (PyData.depthAll ds) (PyData.bool b).depth ≤ (PyData.bool b).depth := Nat.min_le_right _ _
  exact SeqAt.count_list_data pl.isList ra rb hp rfl (by omega) ⟨.int _, H, I.kept (t' := s.toks + 1) (h' := s.heap) fun _ _ e => e, ⟨_, rfl⟩, q⟩
def eCntB (mo : DM D) (ml : DM (List D)) : DM D := mBind mo fun d => fun σ S => match d with
  | .pd (.list ds) => mBind ml (fun es => fun _ S => match es with
    | [.pd (.bool b)] => if PyData.plainAll ds = true ∧ PyData.hasDictAll ds = false then .ok (.int (ds.countP fun y => PyData.eqv y (.bool b) : Nat)) S else .stuck
    | _ => .stuck) σ S
  | _ => .stuck
theorem px_cntB (hk : X.K = g.K) (hu : X.A.units + 64 < cLine) (ho : PE X o (T g E mo)) (ha : PA X (e :: es) (TL g E ml))
    (hbase : attributeBase o "count" X.env (eval o X.env) = eval o X.env := by rfl)
    (hfew : ((backTo cpos (starEach (e :: es) X.env)).all (fun x => !x.1) && (backToKw cpos (keywordEach [] X.env)).all (fun x => x.1.isSome)
      && decide ((e :: es).length + ([] : List Keyword).length + (if ([] : List Keyword).isEmpty then 0 else 1) < 30)) = true := by rfl)
    (hline : (apos.endLine == cpos.line) = true := by rfl) (hs : starEach (e :: es) X.env = (false, eval e X.env) :: starEach es X.env := by rfl) (hplain : (backTo cpos (starEach es X.env)).any (·.1) = false := by rfl) :
    PE X (.Call (.Attribute o "count" apos) (e :: es) [] cpos) (T g E (eCntB mo ml)) :=
  PE.imp (pe_mG ty_lstL PySem.F.plainAttrs_list PySem.F.slot_list_count PySem.F.type_list_count (mt_cntP hu) ho ha hbase hfew hline hs hplain) fun σ H Q ⟨L, σd, S, rp, sl, ev⟩ => ⟨L, σd, S, rp, sl, ev.step fun d S1 L1 H1 x1 r1 ev1 v dn => by
    split at ev1
    · rename_i ds
      obtain ⟨a, vs, rfl, rd, z⟩ := den_lst dn
      refine ⟨(show tyV X.K "list" (.ref a) H1 from .inl ⟨rfl, vs, .inl rd⟩), L1, σd, S1, r1, sl.ext rp x1, ev1.step fun es S2 L2 H2 x2 r2 ev2 ws dns => ?_⟩
      obtain ⟨a2, vs2, e2, rd2, z2⟩ := den_lst (Den.ext r1 x2 dn)
      cases e2
      split at ev2
      · rename_i b
        split at ev2
        · rename_i hp
          cases dns with
          | cons db dt =>
            cases dt
            cases den_bl db
            exact ⟨a, vs2, ds, b, rfl, .inl rd2, rfl, DzAll.dp (hk ▸ z2) hp.2, hp.1, fin_val r2 ev2 (.pd (.int _))⟩
        · exact ev2.elim
      · exact ev2.elim
    · exact ev1.elim⟩
/-- l.index(x) -/
def eIdxL (mo : DM D) (ml : DM (List D)) : DM D := mBind mo fun d => fun σ S => match d with
  | .pd (.list ds) => mBind ml (fun es => fun _ S => match es with
    | [.pd x] => if okEq (.list ds) = true ∧ okEq x = true then (match ds.findIdx? fun z => PyData.eqv z x with
      | some j => .ok (.int (j : Nat)) S
      | none => .stuck) else .stuck
    | _ => .stuck) σ S
  | _ => .stuck
theorem px_idxL (hk : X.K = g.K) (hu : X.A.units + 65 < cLine) (ho : PE X o (T g E mo)) (ha : PA X (e :: es) (TL g E ml))
    (hbase : attributeBase o "index" X.env (eval o X.env) = eval o X.env := by rfl)
    (hfew : ((backTo cpos (starEach (e :: es) X.env)).all (fun x => !x.1) && (backToKw cpos (keywordEach [] X.env)).all (fun x => x.1.isSome)
      && decide ((e :: es).length + ([] : List Keyword).length + (if ([] : List Keyword).isEmpty then 0 else 1) < 30)) = true := by rfl)
    (hline : (apos.endLine == cpos.line) = true := by rfl) (hs : starEach (e :: es) X.env = (false, eval e X.env) :: starEach es X.env := by rfl) (hplain : (backTo cpos (starEach es X.env)).any (·.1) = false := by rfl) :
    PE X (.Call (.Attribute o "index" apos) (e :: es) [] cpos) (T g E (eIdxL mo ml)) :=
  PE.imp (pe_mG ty_lstL PySem.F.plainAttrs_list PySem.F.slot_list_index PySem.F.type_list_index (mt_indexD hu) ho ha hbase hfew hline hs hplain) fun σ H Q ⟨L, σd, S, rp, sl, ev⟩ => ⟨L, σd, S, rp, sl, ev.step fun d S1 L1 H1 x1 r1 ev1 v dn => by
    split at ev1
    · rename_i ds
      obtain ⟨a, vs, rfl, rd, z⟩ := den_lst dn
      refine ⟨(show tyV X.K "list" (.ref a) H1 from .inl ⟨rfl, vs, .inl rd⟩), L1, σd, S1, r1, sl.ext rp x1, ev1.step fun es S2 L2 H2 x2 r2 ev2 ws dns => ?_⟩
      split at ev2
      · rename_i x
        split at ev2
        · rename_i hp
          split at ev2
          · rename_i j hj
            cases dns with
            | cons db dt =>
              cases dt
              have h1 := view_dz r2 (Den.ext r1 x2 dn) (x := .list ds) rfl (okEq_nd hp.1)
              have h2 := view_dz r2 db (x := x) rfl (okEq_nd hp.2)
              rw [← hk] at h1 h2
              obtain ⟨hlt, hyes, hno⟩ := List.findIdx?_eq_some_iff_getElem.mp hj
              refine ⟨a, _, x, ds, j, ds[j], rfl, rfl, h1, h2, hp.1, hp.2, List.getElem?_eq_getElem hlt, hyes, fun m z' hm ez => ?_, fin_val r2 ev2 (.pd (.int _))⟩
              obtain ⟨hml, rfl⟩ := List.getElem?_eq_some_iff.mp ez
              simpa using hno m hm
          · exact ev2.elim
        · exact ev2.elim
      · exact ev2.elim
    · exact ev1.elim⟩
end
end DL
namespace DL
theorem all_cons {α : Type} {P : α → Prop} {a : α} {l : List α} (h : P a) (t : ∀ x ∈ l, P x) : ∀ x ∈ a :: l, P x := fun x hx => by
  rcases List.mem_cons.mp hx with rfl | hx
  · exact h
  · exact t x hx
end DL
end
section
namespace DL
open PySem PySem.Spec PyProof.Rows L2

/-! ### plain reasoning about the readings -/
@[simp] theorem noRef_pd (x : PyData) : noRef (.pd x) = true := rfl
@[simp] theorem noRef_glob (x : Str) : noRef (.glob x) = true := rfl
@[simp] theorem refsOf_nil : refsOf [] = [] := rfl
@[simp] theorem refsOf_pd (x : PyData) (r : List D) : refsOf (.pd x :: r) = refsOf r := rfl
@[simp] theorem refsOf_ref (n : Nat) (r : List D) : refsOf (.ref n :: r) = n :: refsOf r := rfl
@[simp] theorem renum_nil (k : Nat) : renum k [] = [] := rfl
@[simp] theorem renum_pd (k : Nat) (x : PyData) (r : List D) : renum k (.pd x :: r) = .pd x :: renum k r := rfl
@[simp] theorem renum_ref (k n : Nat) (r : List D) : renum k (.ref n :: r) = .ref k :: renum (k + 1) r := rfl
@[simp] theorem obsAt_nil (S : Sto) : obsAt S [] = some [] := rfl
@[simp] theorem putAll_nil (S os : Sto) : putAll S [] os = S := by cases os <;> rfl
@[simp] theorem frz_pd (k : Nat) (S : Sto) (x : PyData) : frz k S (.pd x) = some (.pd x) := rfl
@[simp] theorem pdL_nil : pdL [] = some [] := rfl
@[simp] theorem pdL_cons (x : PyData) (r : List D) : pdL (.pd x :: r) = (pdL r).map (x :: ·) := rfl
/-- a call on data alone -/
theorem callF_pd {n : Nat} {f : DF} {ds : List D} {d : D} (h : f ds [] = .ok d []) (hd : refsOf ds = []) (hr : renum 0 ds = ds) (hn : ds.length = n) (hnr : noRef d = true) (σ : Sl) (S : Sto) : callF n f ds σ S = .ok d S := by
  unfold callF
  rw [hd]
  simp only [obsAt_nil, hr, h]
  simp [hn, hnr]
/-- .. with one object handed in, in the first place -/
theorem callF_ref {n : Nat} {f : DF} {ds : List D} {d : D} {p : Nat} {ob ob' : Ob} {S : Sto} (hp : S[p]? = some ob) (hob : pdOb ob = true) (hd : refsOf ds = [p]) (h : f (renum 0 ds) [ob] = .ok d [ob']) (hn : ds.length = n) (hnr : noRef d = true) (hob' : pdOb ob' = true) (σ : Sl) : callF n f ds σ S = .ok d (S.set p ob') := by
  unfold callF
  rw [hd]
  have e : obsAt S [p] = some [ob] := by simp [obsAt, hp]
  simp only [e, h]
  rw [if_pos ⟨hn, by simp, by simp [hob]⟩, if_pos ⟨rfl, hnr, by simp [hob']⟩]
  simp [putAll]
/-! ### the readings applied -/
section
variable {α β : Type} (σ : Sl) (S : Sto)
@[simp] theorem mBind_app (m : DM α) (f : α → DM β) : mBind m f σ S = (m σ S).bind fun a S' => f a σ S' := rfl
@[simp] theorem mRet_app (a : α) : mRet a σ S = .ok a S := rfl
theorem eVar_app (i : Nat) : eVar i σ S = (match σ[i]? with | some (some d) => .ok d S | _ => .stuck) := rfl
@[simp] theorem eVar_0 (x : D) (r : Sl) : eVar 0 (some x :: r) S = .ok x S := rfl
@[simp] theorem eVar_1 (a0 : Option D) (x : D) (r : Sl) : eVar 1 (a0 :: some x :: r) S = .ok x S := rfl
@[simp] theorem eVar_2 (a0 a1 : Option D) (x : D) (r : Sl) : eVar 2 (a0 :: a1 :: some x :: r) S = .ok x S := rfl
@[simp] theorem eVar_3 (a0 a1 a2 : Option D) (x : D) (r : Sl) : eVar 3 (a0 :: a1 :: a2 :: some x :: r) S = .ok x S := rfl
@[simp] theorem eVar_4 (a0 a1 a2 a3 : Option D) (x : D) (r : Sl) : eVar 4 (a0 :: a1 :: a2 :: a3 :: some x :: r) S = .ok x S := rfl
@[simp] theorem eVar_5 (a0 a1 a2 a3 a4 : Option D) (x : D) (r : Sl) : eVar 5 (a0 :: a1 :: a2 :: a3 :: a4 :: some x :: r) S = .ok x S := rfl
@[simp] theorem eVar_6 (a0 a1 a2 a3 a4 a5 : Option D) (x : D) (r : Sl) : eVar 6 (a0 :: a1 :: a2 :: a3 :: a4 :: a5 :: some x :: r) S = .ok x S := rfl
@[simp] theorem eVar_7 (a0 a1 a2 a3 a4 a5 a6 : Option D) (x : D) (r : Sl) : eVar 7 (a0 :: a1 :: a2 :: a3 :: a4 :: a5 :: a6 :: some x :: r) S = .ok x S := rfl
@[simp] theorem eVar_8 (a0 a1 a2 a3 a4 a5 a6 a7 : Option D) (x : D) (r : Sl) : eVar 8 (a0 :: a1 :: a2 :: a3 :: a4 :: a5 :: a6 :: a7 :: some x :: r) S = .ok x S := rfl
@[simp] theorem eVar_9 (a0 a1 a2 a3 a4 a5 a6 a7 a8 : Option D) (x : D) (r : Sl) : eVar 9 (a0 :: a1 :: a2 :: a3 :: a4 :: a5 :: a6 :: a7 :: a8 :: some x :: r) S = .ok x S := rfl
@[simp] theorem eVar_10 (a0 a1 a2 a3 a4 a5 a6 a7 a8 a9 : Option D) (x : D) (r : Sl) : eVar 10 (a0 :: a1 :: a2 :: a3 :: a4 :: a5 :: a6 :: a7 :: a8 :: a9 :: some x :: r) S = .ok x S := rfl
@[simp] theorem eK_app (d : D) : eK d σ S = .ok d S := rfl
@[simp] theorem eOp_app (op : D → D → Sto → Out D) (a b : DM D) : eOp op a b σ S = (a σ S).bind fun x S1 => (b σ S1).bind fun y S2 => op x y S2 := rfl
@[simp] theorem asB_bl (b : Bool) : asB (.pd (.bool b)) σ S = .ok b S := rfl
@[simp] theorem eTest_app (m : DM D) : eTest m σ S = (m σ S).bind fun d S' => asB d σ S' := rfl
@[simp] theorem tru_bl (b : Bool) : tru (.pd (.bool b)) σ S = .ok b S := rfl
@[simp] theorem eTru_app (m : DM D) : eTru m σ S = (m σ S).bind fun d S' => tru d σ S' := rfl
@[simp] theorem eChain_app (op op' : D → D → Sto → Out D) (a b c : DM D) : eChain op op' a b c σ S = (a σ S).bind fun x S1 => (b σ S1).bind fun y S2 => ((op x y S2).bind fun d S3 => asB d σ S3).bind fun k S3 => if k = true then (c σ S3).bind fun z S4 => op' y z S4 else .ok (.bl false) S3 := by
  unfold eChain
  simp only [mBind_app]
  congr; funext x S1; congr; funext y S2; congr; funext k S3
  cases k <;> rfl
@[simp] theorem bNot_app (m : DM Bool) : bNot m σ S = (m σ S).bind fun k S' => .ok (!k) S' := rfl
@[simp] theorem bAnd_app (m n : DM Bool) : bAnd m n σ S = (m σ S).bind fun k S' => if k = true then n σ S' else .ok false S' := by
  unfold bAnd; simp only [mBind_app]; congr; funext k S'; cases k <;> rfl
@[simp] theorem bOr_app (m n : DM Bool) : bOr m n σ S = (m σ S).bind fun k S' => if k = true then .ok true S' else n σ S' := by
  unfold bOr; simp only [mBind_app]; congr; funext k S'; cases k <;> rfl
@[simp] theorem eNot_app (m : DM D) : eNot m σ S = ((m σ S).bind fun d S' => tru d σ S').bind fun k S' => .ok (.bl (!k)) S' := rfl
@[simp] theorem eAnd_app (m n : DM D) : eAnd m n σ S = (m σ S).bind fun x S1 => (tru x σ S1).bind fun k S2 => if k = true then n σ S2 else .ok x S2 := by
  unfold eAnd; simp only [mBind_app]; congr; funext x S1; congr; funext k S2; cases k <;> rfl
@[simp] theorem eOr_app (m n : DM D) : eOr m n σ S = (m σ S).bind fun x S1 => (tru x σ S1).bind fun k S2 => if k = true then .ok x S2 else n σ S2 := by
  unfold eOr; simp only [mBind_app]; congr; funext x S1; congr; funext k S2; cases k <;> rfl
@[simp] theorem eIf_app (t : DM Bool) (m n : DM D) : eIf t m n σ S = (t σ S).bind fun k S' => if k = true then m σ S' else n σ S' := by
  unfold eIf; simp only [mBind_app]; congr; funext k S'; cases k <;> rfl
@[simp] theorem eUn_app (op : D → Sto → Out D) (m : DM D) : eUn op m σ S = (m σ S).bind fun x S' => op x S' := rfl
@[simp] theorem lNil_app : lNil σ S = .ok [] S := rfl
@[simp] theorem lCons_app (m : DM D) (n : DM (List D)) : lCons m n σ S = (m σ S).bind fun x S1 => (n σ S1).bind fun xs S2 => .ok (x :: xs) S2 := rfl
@[simp] theorem eTup_app (m : DM (List D)) : eTup m σ S = (m σ S).bind fun ds S' => mkTup ds σ S' := rfl
@[simp] theorem eLst_app (m : DM (List D)) : eLst m σ S = (m σ S).bind fun ds S' => mkLst ds σ S' := rfl
@[simp] theorem eLstM_app (m : DM (List D)) : eLstM m σ S = (m σ S).bind fun ds S' => mkLstM ds σ S' := rfl
@[simp] theorem eCall_app (op : LF) (m : DM (List D)) : eCall op m σ S = (m σ S).bind fun ds S' => op ds S' := rfl
@[simp] theorem eSlice_app (m : DM D) (lo hi : DM (Option Int)) : eSlice m lo hi σ S = (m σ S).bind fun d S1 => (lo σ S1).bind fun l S2 => (hi σ S2).bind fun u S3 => slD S3 d l u := rfl
@[simp] theorem asI_int (i : Int) : asI (.pd (.int i)) σ S = .ok (some i) S := rfl
@[simp] theorem eMeth_app (t : String) (op : MF) (mo : DM D) (ml : DM (List D)) : eMeth t op mo ml σ S = (mo σ S).bind fun d S1 => if tyD S1 d = some t then (ml σ S1).bind fun ds S2 => op d ds S2 else .stuck := rfl
@[simp] theorem sNext_app : sNext σ S = .ok (.next σ) S := rfl
@[simp] theorem sNever_app : sNever σ S = .stuck := rfl
@[simp] theorem sBrk_app : sBrk σ S = .ok (.brk σ) S := rfl
@[simp] theorem sCont_app : sCont σ S = .ok (.cont σ) S := rfl
@[simp] theorem sSeq_app (a b : DM Fl) : sSeq a b σ S = (a σ S).bind fun f S' => (match f with | .next σ' => b σ' S' | f => .ok f S') := rfl
@[simp] theorem sSet_app (i : Nat) (m : DM D) : sSet i m σ S = (m σ S).bind fun d S' => .ok (.next (σ.set i (some d))) S' := rfl
@[simp] theorem sExpr_app (m : DM D) : sExpr m σ S = (m σ S).bind fun _ S' => .ok (.next σ) S' := rfl
@[simp] theorem sRet_app (m : DM D) : sRet m σ S = (m σ S).bind fun d S' => .ok (.ret d) S' := rfl
@[simp] theorem sRetN_app : sRetN σ S = .ok (.ret .non) S := rfl
@[simp] theorem sIf_app (c : DM Bool) (a b : DM Fl) : sIf c a b σ S = (c σ S).bind fun k S' => if k = true then a σ S' else b σ S' := rfl
@[simp] theorem sAsg_app (t : TgD) (m : DM D) : sAsg t m σ S = (m σ S).bind fun d S' => (match t d σ with | some σ' => .ok (.next σ') S' | none => .stuck) := rfl
@[simp] theorem eRg1_app (tup : Bool) (m : DM D) : eRg1 tup m σ S = (m σ S).bind fun d S' => (match d with | .pd (.int n) => kRg tup 0 n S' | _ => .stuck) := rfl
@[simp] theorem eIsI_app (t : TyN) (m : DM D) : eIsI t m σ S = (m σ S).bind fun d S' => (match isTy S' t d with | some b => .ok (.bl b) S' | none => .stuck) := rfl
@[simp] theorem opAdd_int (i j : Int) : opAdd (.pd (.int i)) (.pd (.int j)) S = .ok (.int (i + j)) S := rfl
@[simp] theorem opSub_int (i j : Int) : opSub (.pd (.int i)) (.pd (.int j)) S = .ok (.int (i - j)) S := rfl
@[simp] theorem opCmpI_int (f : Int → Int → Bool) (i j : Int) : opCmpI f (.pd (.int i)) (.pd (.int j)) S = .ok (.bl (f i j)) S := rfl
@[simp] theorem opLt_int (i j : Int) : opLt (.pd (.int i)) (.pd (.int j)) S = .ok (.bl (decide (i < j))) S := rfl
@[simp] theorem tgName_app (i : Nat) (d : D) : tgName i d σ = some (σ.set i (some d)) := rfl
@[simp] theorem tgNil_app : tgNil [] σ = some σ := rfl
@[simp] theorem tgCons_app (t : TgD) (u : TgsD) (d : D) (r : List D) : tgCons t u (d :: r) σ = (t d σ).bind (u r) := rfl
@[simp] theorem tgTup_app (t : TgsD) (ds : List PyData) : tgTup t (.pd (.tuple ds)) σ = t (ds.map .pd) σ := rfl
@[simp] theorem clr_nil' : clr [] σ = σ := rfl
@[simp] theorem clr_cons' (i : Nat) (r : List Nat) : clr (i :: r) σ = (clr r σ).set i none := rfl
end
theorem okEq_int (i : Int) : okEq (.int i) = true := by unfold okEq SeqAt.shaped; simp [PyData.canLay0, PyData.depth]
theorem opEq_int (ne : Bool) (i j : Int) (S : Sto) : opEq ne (.pd (.int i)) (.pd (.int j)) S = .ok (.bl (decide (i = j) ^^ ne)) S := by
  show opEq0 ne (.pd (.int i)) (.pd (.int j)) S = _
  unfold opEq0
  simp only [view, okEq_int, Bool.and_self, if_true]
  congr 2
/-- a def's result from its body's -/
theorem runF_pure {n : Nat} {m : DM Fl} {ds : List D} {x : PyData} {S' : Sto} (h : m (startD n ds) [] = .ok (.ret (.pd x)) S') : runF n m ds [] = .ok (.pd x) [] := by
  unfold runF
  simp [h, fin]
theorem runF_next {n : Nat} {m : DM Fl} {ds : List D} {σ : Sl} {S' : Sto} (h : m (startD n ds) [] = .ok (.next σ) S') : runF n m ds [] = .ok .non [] := by
  unfold runF
  simp [h, fin]
theorem runF_retL {n : Nat} {m : DM Fl} {ds : List D} {k : Nat} {xs : List PyData} {S' : Sto} (h : m (startD n ds) [] = .ok (.ret (.ref k)) S') (hk : S'[k]? = some (.lst (xs.map .pd))) : runF n m ds [] = .ok (.lst xs) [] := by
  unfold runF
  simp [h, fin, frz, hk]
/-- what a reading comes to -/
def Sat {α : Type} (o : Out α) (P : α → Sto → Prop) : Prop := ∃ a S, o = .ok a S ∧ P a S
theorem Sat.ok {α : Type} {a : α} {S : Sto} {P : α → Sto → Prop} (h : P a S) : Sat (.ok a S) P := ⟨a, S, rfl, h⟩
theorem Sat.bind {α β : Type} {m : Out α} {f : α → Sto → Out β} {P : α → Sto → Prop} {Q : β → Sto → Prop} (h : Sat m P) (k : ∀ a S, P a S → Sat (f a S) Q) : Sat (m.bind f) Q := by
  obtain ⟨a, S, rfl, p⟩ := h
  exact k a S p
theorem Sat.imp {α : Type} {o : Out α} {P Q : α → Sto → Prop} (h : Sat o P) (k : ∀ a S, P a S → Q a S) : Sat o Q := by
  obtain ⟨a, S, e, p⟩ := h
  exact ⟨a, S, e, k a S p⟩
/-- for: an invariant over what is left -/
theorem forGo_sat {gu : Gu} {t : TgD} {body : DM Fl} {vs : List Nat} {P : Fl → Sto → Prop} (I : List D → Sl → Sto → Prop) (hg : ∀ l σ S, I l σ S → gu.ok S) (h0 : ∀ σ S, I [] σ S → P (.next σ) S)
    (hs : ∀ d r σ S, I (d :: r) σ S → ∃ σ1, t d σ = some σ1 ∧ Sat (body σ1 S) fun f S' => match f with
      | .next σ2 => I r (clr vs σ2) S'
      | .cont σ2 => I r (clr vs σ2) S'
      | .brk σ2 => P (.next (clr vs σ2)) S'
      | .ret d => P (.ret d) S') : ∀ (l : List D) (σ : Sl) (S : Sto), I l σ S → Sat (forGo gu t body vs l σ S) P := by
  intro l
  induction l with
  | nil =>
    intro σ S h
    unfold forGo
    rw [if_pos (hg _ _ _ h)]
    exact .ok (h0 σ S h)
  | cons d r ih =>
    intro σ S h
    unfold forGo
    rw [if_pos (hg _ _ _ h)]
    obtain ⟨σ1, e, f, S', eb, q⟩ := hs d r σ S h
    simp only [e, eb, Out.bind_ok]
    cases f with
    | next σ2 => exact ih _ _ q
    | cont σ2 => exact ih _ _ q
    | brk σ2 => exact .ok q
    | ret d => exact .ok q
/-- a comprehension whose test and element change nothing -/
theorem lcGo_pure {gu : Gu} {t : TgD} {tt : DM Bool} {te : DM D} {σ : Sl} {S : Sto} (hg : gu.ok S) (p : D → Bool) (f : D → D) : ∀ (l acc : List D), (∀ d ∈ l, ∃ σ1, t d σ = some σ1 ∧ tt σ1 S = .ok (p d) S ∧ (p d = true → te σ1 S = .ok (f d) S)) → acc.length + l.length ≤ sizeLine →
    lcGo gu t tt te l acc σ S = .ok (acc ++ (l.filter p).map f) S
  | [], acc, _, _ => by
    unfold lcGo
    rw [if_pos hg]
    simp
  | d :: r, acc, h, hl => by
    unfold lcGo
    rw [if_pos hg]
    obtain ⟨σ1, e1, e2, e3⟩ := h d List.mem_cons_self
    simp only [e1, e2, Out.bindN_ok]
    have hr : ∀ d ∈ r, ∃ σ1, t d σ = some σ1 ∧ tt σ1 S = .ok (p d) S ∧ (p d = true → te σ1 S = .ok (f d) S) := fun d hd => h d (List.mem_cons_of_mem _ hd)
    rw [List.length_cons] at hl
    cases hp : p d with
    | true =>
      rw [if_pos rfl, e3 hp]
      simp only [Out.bindN_ok]
      rw [if_pos (by omega), lcGo_pure hg p f r (acc ++ [f d]) hr (by rw [List.length_append, List.length_singleton]; omega)]
      simp [List.filter_cons, hp]
    | false =>
      rw [if_neg Bool.false_ne_true, lcGo_pure hg p f r acc hr (by omega)]
      simp [List.filter_cons, hp]
/-- a comprehension: an invariant over what is left and what is gathered -/
theorem lcGo_sat {gu : Gu} {t : TgD} {tt : DM Bool} {te : DM D} {σ : Sl} {P : List D → Sto → Prop} (I : List D → List D → Sto → Prop) (hg : ∀ l acc S, I l acc S → gu.ok S) (h0 : ∀ acc S, I [] acc S → P acc S)
    (hs : ∀ d r acc S, I (d :: r) acc S → ∃ σ1, t d σ = some σ1 ∧ Sat (tt σ1 S) fun b S1 => if b = true then Sat (te σ1 S1) fun y S2 => acc.length < sizeLine ∧ I r (acc ++ [y]) S2 else I r acc S1) :
    ∀ (l acc : List D) (S : Sto), I l acc S → Sat (lcGo gu t tt te l acc σ S) P := by
  intro l
  induction l with
  | nil =>
    intro acc S h
    unfold lcGo
    rw [if_pos (hg _ _ _ h)]
    exact .ok (h0 acc S h)
  | cons d r ih =>
    intro acc S h
    unfold lcGo
    rw [if_pos (hg _ _ _ h)]
    obtain ⟨σ1, e, b, S1, eb, q⟩ := hs d r acc S h
    simp only [e, eb, Out.bindN_ok]
    cases b with
    | true =>
      rw [if_pos rfl] at q
      rw [if_pos rfl]
      obtain ⟨y, S2, ey, hl, q⟩ := q
      simp only [ey, Out.bindN_ok]
      rw [if_pos hl]
      exact ih _ _ q
    | false =>
      rw [if_neg Bool.false_ne_true] at q
      rw [if_neg Bool.false_ne_true]
      exact ih _ _ q
end DL
end
section
namespace DL
open PySem PySem.Spec PyProof.Rows L2
section
variable {σ : Sl} {S : Sto}
theorem lcGo_map {α : Type} {gu : Gu} {t : TgD} {tt : DM Bool} {te : DM D} (hg : gu.ok S) (g : α → D) (P : α → Bool) (F : α → PyData) : ∀ (l : List α) (acc : List D), (∀ a ∈ l, ∃ σ1, t (g a) σ = some σ1 ∧ tt σ1 S = .ok (P a) S ∧ (P a = true → te σ1 S = .ok (.pd (F a)) S)) →
    acc.length + l.length ≤ sizeLine → lcGo gu t tt te (l.map g) acc σ S = .ok (acc ++ ((l.filter P).map fun a => .pd (F a))) S
  | [], acc, _, _ => by
    show lcGo gu t tt te [] acc σ S = _
    unfold lcGo
    rw [if_pos hg]
    simp
  | a :: r, acc, h, hl => by
    show lcGo gu t tt te (g a :: r.map g) acc σ S = _
    unfold lcGo
    rw [if_pos hg]
    obtain ⟨σ1, e1, e2, e3⟩ := h a List.mem_cons_self
    simp only [e1, e2, Out.bindN_ok]
    have hr := fun b hb => h b (List.mem_cons_of_mem _ hb)
    rw [List.length_cons] at hl
    cases hp : P a with
    | true =>
      rw [if_pos rfl, e3 hp]
      simp only [Out.bindN_ok]
      rw [if_pos (by omega), lcGo_map hg g P F r (acc ++ [D.pd (F a)]) hr (by rw [List.length_append, List.length_singleton]; omega)]
      simp [List.filter_cons, hp]
    | false =>
      rw [if_neg Bool.false_ne_true, lcGo_map hg g P F r acc hr (by omega)]
      simp [List.filter_cons, hp]
/-- a comprehension over data that changes nothing -/
theorem lcAll_map {α : Type} {vs : List Nat} {w : DM Wk} {gu : Gu} {t : TgD} {tt : DM Bool} {te : DM D} (l : List α) (g : α → D) (P : α → Bool) (F : α → PyData) (hw : w σ S = .ok ⟨l.map g, gu⟩ S) (hg : gu.ok S)
    (h : ∀ a ∈ l, ∃ σ1, t (g a) (clr vs σ) = some σ1 ∧ tt σ1 S = .ok (P a) S ∧ (P a = true → te σ1 S = .ok (.pd (F a)) S)) (hl : l.length ≤ sizeLine) : lcAll vs w t tt te σ S = .ok ((l.filter P).map fun a => .pd (F a)) S := by
  unfold lcAll
  rw [hw]
  show lcGo gu t tt te (l.map g) [] (clr vs σ) S = _
  rw [lcGo_map hg g P F l [] h (by simpa using hl)]
  simp
theorem mkF_map {α : Type} (l : List α) (F : α → PyData) : mkF (l.map fun a => .pd (F a)) σ S = .ok (.lst (l.map F)) S := by
  unfold mkF
  have : (l.map fun a => D.pd (F a)) = (l.map F).map .pd := by rw [List.map_map]; rfl
  rw [this, pdL_map]
theorem eLc_map {α : Type} {vs : List Nat} {w : DM Wk} {gu : Gu} {t : TgD} {tt : DM Bool} {te : DM D} (l : List α) (g : α → D) (P : α → Bool) (F : α → PyData) (hw : w σ S = .ok ⟨l.map g, gu⟩ S) (hg : gu.ok S)
    (h : ∀ a ∈ l, ∃ σ1, t (g a) (clr vs σ) = some σ1 ∧ tt σ1 S = .ok (P a) S ∧ (P a = true → te σ1 S = .ok (.pd (F a)) S)) (hl : l.length ≤ sizeLine) : eLc vs w t tt te σ S = .ok (.lst ((l.filter P).map F)) S := by
  unfold eLc
  rw [mBind_app, lcAll_map l g P F hw hg h hl, Out.bind_ok, mkF_map]
/-- .. without a test -/
theorem eLc_all {α : Type} {vs : List Nat} {w : DM Wk} {gu : Gu} {t : TgD} {te : DM D} (l : List α) (g : α → D) (F : α → PyData) (hw : w σ S = .ok ⟨l.map g, gu⟩ S) (hg : gu.ok S)
    (h : ∀ a ∈ l, ∃ σ1, t (g a) (clr vs σ) = some σ1 ∧ te σ1 S = .ok (.pd (F a)) S) (hl : l.length ≤ sizeLine) : eLc vs w t (mRet true) te σ S = .ok (.lst (l.map F)) S := by
  have := eLc_map (vs := vs) (w := w) (t := t) (tt := mRet true) (te := te) l g (fun _ => true) F hw hg (fun a ha => by
    obtain ⟨σ1, e1, e2⟩ := h a ha
    exact ⟨σ1, e1, rfl, fun _ => e2⟩) hl
  rw [this, List.filter_eq_self.mpr (fun _ _ => rfl)]
theorem iSeq_tup {m : DM D} {xs : List PyData} (h : m σ S = .ok (.tup xs) S) : iSeq m σ S = .ok ⟨xs.map .pd, .no⟩ S := by
  unfold iSeq; rw [mBind_app, h]; rfl
theorem iSeq_lst {m : DM D} {xs : List PyData} (h : m σ S = .ok (.lst xs) S) : iSeq m σ S = .ok ⟨xs.map .pd, .no⟩ S := by
  unfold iSeq; rw [mBind_app, h]; rfl
theorem iSeq_ref {m : DM D} {n : Nat} {xs : List D} (h : m σ S = .ok (.ref n) S) (hn : S[n]? = some (.lst xs)) : iSeq m σ S = .ok ⟨xs, .at n (.lst xs)⟩ S := by
  unfold iSeq; rw [mBind_app, h]
  simp [wkSeq, asQ, asL, guOf, hn]
theorem iRange1_nat {ml : DM (List D)} {n : Nat} (h : ml σ S = .ok [.int n] S) (hn : n ≤ 1000000) : iRange1 ml σ S = .ok ⟨(List.range n).map fun (i : Nat) => D.int i, .no⟩ S := by
  have hb : -(2 ^ 62) ≤ (n : Int) ∧ (n : Int) < 2 ^ 62 := by omega
  have e : rangeOf1 [.int n] σ S = .ok (wkRange 0 ((n : Int)).toNat) S := by
    unfold rangeOf1
    simp only [hb, and_self, if_true]
  unfold iRange1
  rw [mBind_app, h, Out.bind_ok, e, Int.toNat_natCast]
  have e2 : ((List.range n).map fun (i : Nat) => D.int (0 + (i : Int))) = (List.range n).map fun (i : Nat) => D.int i := List.map_congr_left fun i _ => by rw [Int.zero_add]
  unfold wkRange
  rw [e2]
theorem sFor_app (vs : List Nat) (w : DM Wk) (t : TgD) (body : DM Fl) : sFor vs w t body σ S = (w σ S).bind fun wk S' => forGo wk.gu t body vs wk.items (clr vs σ) S' := rfl
/-! ### while -/
theorem whileN_mono {c : DM Bool} {body : DM Fl} {vs : List Nat} : ∀ (n : Nat) {σ : Sl} {S : Sto}, whileN c body vs n σ S ≠ .stuck → ∀ k, whileN c body vs (n + k) σ S = whileN c body vs n σ S
  | 0, σ, S, h, k => absurd rfl h
  | n + 1, σ, S, h, k => by
    rw [show n + 1 + k = (n + k) + 1 by omega]
    unfold whileN at h ⊢
    cases e : c σ S with
    | ok b S1 =>
      rw [e] at h
      simp only [Out.bind_ok] at h ⊢
      cases b with
      | false => rfl
      | true =>
        simp only [if_true] at h ⊢
        cases e2 : body σ S1 with
        | ok f S2 =>
          rw [e2] at h
          simp only [Out.bind_ok] at h ⊢
          cases f with
          | next σ2 => exact whileN_mono n h k
          | cont σ2 => exact whileN_mono n h k
          | brk σ2 => rfl
          | ret d => rfl
        | exc _ _ _ => rfl
        | stuck => rfl
    | exc _ _ _ => rfl
    | stuck => rfl
theorem whileN_same {c : DM Bool} {body : DM Fl} {vs : List Nat} {n m : Nat} (h : whileN c body vs n σ S ≠ .stuck) (h' : whileN c body vs m σ S ≠ .stuck) : whileN c body vs n σ S = whileN c body vs m σ S := by
  rcases Nat.le_total n m with q | q
  · obtain ⟨k, rfl⟩ := Nat.exists_eq_add_of_le q
    exact (whileN_mono n h k).symm
  · obtain ⟨k, rfl⟩ := Nat.exists_eq_add_of_le q
    exact whileN_mono m h' k
theorem sWhile_of {c : DM Bool} {body : DM Fl} {vs : List Nat} {n : Nat} {P : Fl → Sto → Prop} (h : Sat (whileN c body vs n (clr vs σ) S) P) : Sat (sWhile vs c body σ S) P := by
  obtain ⟨f, S', e, p⟩ := h
  have ns : whileN c body vs n (clr vs σ) S ≠ .stuck := by rw [e]; intro z; cases z
  have hex : ∃ n, whileN c body vs n (clr vs σ) S ≠ .stuck := ⟨n, ns⟩
  unfold sWhile
  rw [dif_pos hex, whileN_same (Classical.choose_spec hex) ns, e]
  exact .ok p
/-- an invariant with a number that falls -/
theorem sWhile_sat {c : DM Bool} {body : DM Fl} {vs : List Nat} {P : Fl → Sto → Prop} (I : Nat → Sl → Sto → Prop)
    (hs : ∀ m σ S, I m σ S → Sat (c σ S) fun k S1 => if k = true then Sat (body σ S1) (fun f S2 => match f with
      | .next σ2 => ∃ m', m' < m ∧ I m' (clr vs σ2) S2
      | .cont σ2 => ∃ m', m' < m ∧ I m' (clr vs σ2) S2
      | .brk σ2 => P (.next (clr vs σ2)) S2
      | .ret d => P (.ret d) S2) else P (.next σ) S1) {m : Nat} (h : I m (clr vs σ) S) : Sat (sWhile vs c body σ S) P := by
  have go : ∀ m σ S, I m σ S → ∃ n, Sat (whileN c body vs n σ S) P := by
    intro m
    induction m using Nat.strongRecOn with
    | ind m ih =>
      intro σ S h
      obtain ⟨k, S1, ec, q⟩ := hs m σ S h
      cases k with
      | false =>
        refine ⟨1, ?_⟩
        unfold whileN
        rw [ec]
        exact .ok q
      | true =>
        obtain ⟨f, S2, eb, q⟩ := q
        cases f with
        | next σ2 =>
          obtain ⟨m', hm, hi⟩ := q
          obtain ⟨n, hn⟩ := ih m' hm _ _ hi
          refine ⟨n + 1, ?_⟩
          unfold whileN
          rw [ec]
          simp only [Out.bind_ok, if_true, eb]
          exact hn
        | cont σ2 =>
          obtain ⟨m', hm, hi⟩ := q
          obtain ⟨n, hn⟩ := ih m' hm _ _ hi
          refine ⟨n + 1, ?_⟩
          unfold whileN
          rw [ec]
          simp only [Out.bind_ok, if_true, eb]
          exact hn
        | brk σ2 =>
          refine ⟨1, ?_⟩
          unfold whileN
          rw [ec]
          simp only [Out.bind_ok, if_true, eb]
          exact .ok q
        | ret d =>
          refine ⟨1, ?_⟩
          unfold whileN
          rw [ec]
          simp only [Out.bind_ok, if_true, eb]
          exact .ok q
  obtain ⟨n, hn⟩ := go m _ _ h
  exact sWhile_of hn
/-! ### the built-ins on data -/
theorem fAll_lst (bs : List Bool) : fAll [.lst (bs.map .bool)] S = .ok (.bl (bs.all fun b => b)) S := by
  show (match blsOf S (.lst (bs.map .bool)) with | some bs => Out.ok (D.bl (bs.all fun b => b)) S | none => .stuck) = _
  have : blsOf S (.lst (bs.map .bool)) = some bs := by
    unfold blsOf asL
    dsimp only
    rw [pdL_map]
    exact blsL_map bs
  rw [this]
theorem fAll_map {α : Type} (l : List α) (P : α → Bool) : fAll [.lst (l.map fun a => .bool (P a))] S = .ok (.bl (l.all P)) S := by
  have := fAll_lst (S := S) (l.map P)
  rw [List.map_map] at this
  rw [show (fun a => PyData.bool (P a)) = (PyData.bool ∘ P) from rfl, this, List.all_map]
  rfl
@[simp] theorem fTuple_lst (xs : List PyData) : fTuple [.lst xs] S = .ok (.tup xs) S := by
  show (match asL S (.lst xs) with | some ys => (match pdL ys with | some zs => Out.ok (D.tup zs) S | none => .stuck) | none => .stuck) = _
  unfold asL
  dsimp only
  rw [pdL_map]
@[simp] theorem fLen_tup (xs : List PyData) : fLen [.tup xs] S = .ok (.int xs.length) S := by simp [fLen, asQ]
@[simp] theorem fLen_lst (xs : List PyData) : fLen [.lst xs] S = .ok (.int xs.length) S := by simp [fLen, asQ, asL]
theorem atI_nat {α : Type} {xs : List α} {i : Nat} (h : i < xs.length) : atI xs (i : Int) = xs[i]? := by
  unfold atI ixN
  rw [if_pos (by omega), if_pos (by omega)]
  simp
@[simp] theorem ofO_some {α : Type} (d : α) : ofO (some d) S = .ok d S := rfl
@[simp] theorem atI_0 {α : Type} (x : α) (r : List α) : atI (x :: r) 0 = some x := by
  have := atI_nat (xs := x :: r) (i := 0) (by simp)
  simpa using this
@[simp] theorem atI_1 {α : Type} (x y : α) (r : List α) : atI (x :: y :: r) 1 = some y := by
  have := atI_nat (xs := x :: y :: r) (i := 1) (by simp)
  simpa using this
@[simp] theorem atI_2 {α : Type} (x y z : α) (r : List α) : atI (x :: y :: z :: r) 2 = some z := by
  have := atI_nat (xs := x :: y :: z :: r) (i := 2) (by simp)
  simpa using this
theorem opIx_tup (xs : List PyData) (i : Int) : opIx (.tup xs) (.int i) S = ofO (atI (xs.map .pd) i) S := rfl
theorem opIx_lst (xs : List PyData) (i : Int) : opIx (.lst xs) (.int i) S = ofO (atI (xs.map .pd) i) S := rfl
theorem opIx_ref {n : Nat} {xs : List D} (h : S[n]? = some (.lst xs)) (i : Int) : opIx (.ref n) (.int i) S = ofO (atI xs i) S := by
  unfold opIx asQ asL
  simp [h]
theorem opIx_tupN {xs : List PyData} {i : Nat} {x : PyData} (h : xs[i]? = some x) : opIx (.tup xs) (.int i) S = .ok (.pd x) S := by
  have hl : i < (xs.map D.pd).length := by rw [List.length_map]; exact (List.getElem?_eq_some_iff.mp h).1
  rw [opIx_tup, atI_nat hl, List.getElem?_map, h]; rfl
theorem opIx_lstN {xs : List PyData} {i : Nat} {x : PyData} (h : xs[i]? = some x) : opIx (.lst xs) (.int i) S = .ok (.pd x) S := by
  have hl : i < (xs.map D.pd).length := by rw [List.length_map]; exact (List.getElem?_eq_some_iff.mp h).1
  rw [opIx_lst, atI_nat hl, List.getElem?_map, h]; rfl
theorem opIx_refN {n : Nat} {xs : List D} (hn : S[n]? = some (.lst xs)) {i : Nat} {x : D} (h : xs[i]? = some x) : opIx (.ref n) (.int i) S = .ok x S := by
  rw [opIx_ref hn, atI_nat (List.getElem?_eq_some_iff.mp h).1, h]; rfl
@[simp] theorem opIx_tup0 (x : PyData) (r : List PyData) : opIx (.tup (x :: r)) (.int 0) S = .ok (.pd x) S := by rw [opIx_tup]; simp
@[simp] theorem opIx_tup1 (x y : PyData) (r : List PyData) : opIx (.tup (x :: y :: r)) (.int 1) S = .ok (.pd y) S := by rw [opIx_tup]; simp
end
end DL
namespace DL
open PySem PySem.Spec PyProof.Rows L2
theorem sSeq_next {a b : DM Fl} {σ σ' : Sl} {S S' : Sto} (h : a σ S = .ok (.next σ') S') : sSeq a b σ S = b σ' S' := by rw [sSeq_app, h]; rfl
theorem sSet_ok {i : Nat} {m : DM D} {d : D} {σ : Sl} {S S' : Sto} (h : m σ S = .ok d S') : sSet i m σ S = .ok (.next (σ.set i (some d))) S' := by rw [sSet_app, h]; rfl
theorem sRet_ok {m : DM D} {d : D} {σ : Sl} {S S' : Sto} (h : m σ S = .ok d S') : sRet m σ S = .ok (.ret d) S' := by rw [sRet_app, h]; rfl
theorem eCall1_ok {f : LF} {m : DM D} {d d' : D} {σ : Sl} {S S' S2 : Sto} (h : m σ S = .ok d S') (hf : f [d] S' = .ok d' S2) : eCall f (lCons m lNil) σ S = .ok d' S2 := by
  rw [eCall_app, lCons_app, h]; exact hf
theorem call1_ok {n : Nat} {f : DF} {m : DM D} {d d' : D} {σ : Sl} {S S' S2 : Sto} (h : m σ S = .ok d S') (hf : callF n f [d] σ S' = .ok d' S2) : mBind (lCons m lNil) (callF n f) σ S = .ok d' S2 := by
  rw [mBind_app, lCons_app, h]; exact hf
end DL
namespace DL
open PySem PySem.Spec PyProof.Rows L2
theorem sExpr_ok {m : DM D} {d : D} {σ : Sl} {S S' : Sto} (h : m σ S = .ok d S') : sExpr m σ S = .ok (.next σ) S' := by rw [sExpr_app, h]; rfl
theorem call2_ok {n : Nat} {f : DF} {m m2 : DM D} {d e d' : D} {σ : Sl} {S S' S2 S3 : Sto} (h : m σ S = .ok d S') (h2 : m2 σ S' = .ok e S2) (hf : callF n f [d, e] σ S2 = .ok d' S3) : mBind (lCons m (lCons m2 lNil)) (callF n f) σ S = .ok d' S3 := by
  rw [mBind_app, lCons_app, h, Out.bind_ok, lCons_app, h2]; exact hf
theorem call3_ok {n : Nat} {f : DF} {m m2 m3 : DM D} {d e e3 d' : D} {σ : Sl} {S S' S2 S3 S4 : Sto} (h : m σ S = .ok d S') (h2 : m2 σ S' = .ok e S2) (h3 : m3 σ S2 = .ok e3 S3) (hf : callF n f [d, e, e3] σ S3 = .ok d' S4) : mBind (lCons m (lCons m2 (lCons m3 lNil))) (callF n f) σ S = .ok d' S4 := by
  rw [mBind_app, lCons_app, h, Out.bind_ok, lCons_app, h2, Out.bind_ok, lCons_app, h3]; exact hf
theorem eOp_ok {op : D → D → Sto → Out D} {m m2 : DM D} {d e d' : D} {σ : Sl} {S S' S2 S3 : Sto} (h : m σ S = .ok d S') (h2 : m2 σ S' = .ok e S2) (hf : op d e S2 = .ok d' S3) : eOp op m m2 σ S = .ok d' S3 := by
  rw [eOp_app, h, Out.bind_ok, h2]; exact hf
theorem eTup1_ok {m : DM D} {x : PyData} {σ : Sl} {S S' : Sto} (h : m σ S = .ok (.pd x) S') : eTup (lCons m lNil) σ S = .ok (.tup [x]) S' := by
  rw [eTup_app, lCons_app, h]
  show mkTup [.pd x] σ S' = _
  unfold mkTup
  simp only [pdL_cons, pdL_nil, Option.map_some]
  rw [if_pos (by rw [sizeLine_eq]; simp)]
end DL
namespace DL
open PySem PySem.Spec PyProof.Rows L2
/-- for i in range(n): what stands at each turn -/
theorem forGo_range {i : Nat} {body : DM Fl} {vs : List Nat} {P : Fl → Sto → Prop} (n : Nat) (I : Nat → Sl → Sto → Prop)
    (hs : ∀ j σ S, j < n → I j σ S → Sat (body (σ.set i (some (.int j))) S) fun f S' => match f with
      | .next σ2 => I (j + 1) (clr vs σ2) S'
      | .cont σ2 => I (j + 1) (clr vs σ2) S'
      | .brk σ2 => P (.next (clr vs σ2)) S'
      | .ret d => P (.ret d) S') (h0 : ∀ σ S, I n σ S → P (.next σ) S) {σ : Sl} {S : Sto} (h : I 0 σ S) : Sat (forGo .no (tgName i) body vs ((List.range n).map fun (j : Nat) => D.int j) σ S) P := by
  have go : ∀ k j σ S, j + k = n → I j σ S → Sat (forGo .no (tgName i) body vs ((List.range' j k).map fun (j : Nat) => D.int j) σ S) P := by
    intro k
    induction k with
    | zero =>
      intro j σ S e h
      show Sat (forGo .no (tgName i) body vs [] σ S) P
      unfold forGo
      rw [if_pos (by exact trivial)]
      have : j = n := by omega
      subst this
      exact .ok (h0 σ S h)
    | succ k ih =>
      intro j σ S e h
      show Sat (forGo .no (tgName i) body vs (.int j :: (List.range' (j + 1) k).map fun (j : Nat) => D.int j) σ S) P
      unfold forGo
      rw [if_pos (by exact trivial)]
      obtain ⟨f, S', eb, q⟩ := hs j σ S (by omega) h
      simp only [tgName_app, eb, Out.bind_ok]
      cases f with
      | next σ2 => exact ih (j + 1) _ _ (by omega) q
      | cont σ2 => exact ih (j + 1) _ _ (by omega) q
      | brk σ2 => exact .ok q
      | ret d => exact .ok q
  rw [List.range_eq_range']
  exact go n 0 σ S (by omega) h
theorem opEq_ex (ne : Bool) {x y : PyData} (hx : okEq x = true) (hy : okEq y = true) (S : Sto) (hn : ∀ i, x ≠ .str i := by intro i h; cases h) : opEq ne (.pd x) (.pd y) S = .ok (.bl (PyData.eqv x y ^^ ne)) S := by
  have e : opEq ne (.pd x) (.pd y) S = opEq0 ne (.pd x) (.pd y) S := by
    cases x with
    | str i => exact absurd rfl (hn i)
    | _ => rfl
  rw [e]
  unfold opEq0
  simp only [view, hx, hy, Bool.and_self, if_true]
theorem mkTup2 (x y : PyData) (σ : Sl) (S : Sto) : mkTup [.pd x, .pd y] σ S = .ok (.tup [x, y]) S := by
  unfold mkTup
  simp only [pdL_cons, pdL_nil, Option.map_some]
  rw [if_pos (by rw [sizeLine_eq]; simp)]
theorem mkLst1 (x : PyData) (σ : Sl) (S : Sto) : mkLst [.pd x] σ S = .ok (.lst [x]) S := by
  unfold mkLst
  simp only [pdL_cons, pdL_nil, Option.map_some]
  rw [if_pos (by rw [sizeLine_eq]; simp)]
theorem mul_bit (x : PyData) (k : Bool) (S : Sto) : opMul2 (.lst [x]) (.int (if k = true then 1 else 0)) S = .ok (.lst (if k = true then [x] else [])) S := by
  have e : ∀ i : Int, opMul2 (.lst [x]) (.int i) S = if -(2 ^ 63) ≤ i ∧ i < 2 ^ 63 ∧ [x].length * i.toNat ≤ sizeLine then .ok (.lst (List.replicate i.toNat [x]).flatten) S else .stuck := fun i => rfl
  rw [e]
  cases k with
  | true =>
    rw [if_pos ⟨by decide, by decide, by rw [sizeLine_eq]; simp⟩]
    rfl
  | false =>
    rw [if_pos ⟨by decide, by decide, by simp⟩]
    rfl
end DL
end
section
namespace DL
open PySem PySem.Spec PyProof.Rows L2
/-! ### how long a repr is -/
mutual
def wt : PyData → Nat
  | .none => 5
  | .bool _ => 5
  | .int _ => 12
  | .str _ => 0
  | .list xs => wtAll xs + 3
  | .tuple xs => wtAll xs + 3
  | .dict _ => 0
def wtAll : List PyData → Nat
  | [] => 0
  | x :: xs => wt x + 2 + wtAll xs
end
mutual
/-- none, truths, ints of at most ten figures, rows of these -/
def small : PyData → Bool
  | .none => true
  | .bool _ => true
  | .int i => decide (0 ≤ i) && decide (i < 10 ^ 10)
  | .str _ => false
  | .list xs => smallAll xs
  | .tuple xs => smallAll xs
  | .dict _ => false
def smallAll : List PyData → Bool
  | [] => true
  | x :: xs => small x && smallAll xs
end
mutual
theorem small_shown : ∀ d : PyData, small d = true → d.shown.length ≤ wt d ∧ d.showable = true ∧ d.hasDict = false
  | .none, _ => ⟨by show (("None" : Str)).length ≤ 5; decide, rfl, rfl⟩
  | .bool true, _ => ⟨by show (("True" : Str)).length ≤ 5; decide, rfl, rfl⟩
  | .bool false, _ => ⟨by show (("False" : Str)).length ≤ 5; decide, rfl, rfl⟩
  | .int i, h => by
    unfold small at h
    rw [Bool.and_eq_true, decide_eq_true_eq, decide_eq_true_eq] at h
    refine ⟨?_, ?_, rfl⟩
    · have := PySem.W.KT.len_num h.1 h.2
      show (Str.ofString (toString i)).length ≤ 12
      omega
    · unfold PyData.showable
      apply decide_eq_true
      have h2 : i.natAbs < 2 ^ 64 := by omega
      by_cases h0 : i.natAbs = 0
      · rw [h0]; decide
      · exact Nat.lt_trans ((Nat.log2_lt h0).mpr h2) (by decide)
  | .str _, h => by simp [small] at h
  | .dict _, h => by simp [small] at h
  | .list xs, h => by
    obtain ⟨h1, h2, h3, h4⟩ := small_all xs (by simpa [small] using h)
    refine ⟨?_, by simpa [PyData.showable] using h2, by simpa [PyData.hasDict] using h3⟩
    have := listText_len_le (PyData.shownAll xs)
    show (listText (PyData.shownAll xs)).length ≤ wtAll xs + 3
    omega
  | .tuple xs, h => by
    obtain ⟨h1, h2, h3, h4⟩ := small_all xs (by simpa [small] using h)
    refine ⟨?_, by simpa [PyData.showable] using h2, by simpa [PyData.hasDict] using h3⟩
    have := tupleText_len_le (PyData.shownAll xs)
    show (tupleText (PyData.shownAll xs)).length ≤ wtAll xs + 3
    omega
theorem small_all : ∀ xs : List PyData, smallAll xs = true → ((PyData.shownAll xs).map (·.length)).sum + 2 * (PyData.shownAll xs).length ≤ wtAll xs ∧ PyData.showableAll xs = true ∧ PyData.hasDictAll xs = false ∧ True
  | [], _ => ⟨Nat.le_refl _, rfl, rfl, trivial⟩
  | x :: xs, h => by
    unfold smallAll at h
    rw [Bool.and_eq_true] at h
    obtain ⟨a1, a2, a3⟩ := small_shown x h.1
    obtain ⟨b1, b2, b3, _⟩ := small_all xs h.2
    refine ⟨?_, by rw [PyData.showableAll, a2, b2]; rfl, by rw [PyData.hasDictAll, a3, b3]; rfl, trivial⟩
    rw [PyData.shownAll, List.map_cons, List.sum_cons, List.length_cons, wtAll]
    omega
end
theorem reprOk_small {d : PyData} (h : small d = true) (hd : d.depth ≤ 60) (hw : wt d ≤ 1000000) : reprOk d = true := by
  obtain ⟨h1, h2, h3⟩ := small_shown d h
  unfold reprOk
  rw [h2, h3, decide_eq_true hd, decide_eq_true (show d.shown.length ≤ sizeLine by rw [sizeLine_eq]; omega)]
  rfl
theorem fRepr_pd {d : PyData} (h : reprOk d = true) (S : Sto) : fRepr [.pd d] S = .ok (.str d.shown) S := by
  unfold fRepr
  simp only [view, h, if_true]
theorem neStr (x : Str) (S : Sto) : opEq true (.str x) (.str x) S = .ok (.bl false) S := by
  show Out.ok (D.bl (decide (x = x) ^^ true)) S = _
  simp
theorem eqStr (x : Str) (S : Sto) : opEq false (.str x) (.str x) S = .ok (.bl true) S := by
  show Out.ok (D.bl (decide (x = x) ^^ false)) S = _
  simp
/-- repr(a) != repr(b), of the same data -/
theorem neRepr {a b : DM D} {d : PyData} {σ : Sl} {S S1 S2 : Sto} (h : reprOk d = true) (ha : a σ S = .ok (.pd d) S1) (hb : b σ S1 = .ok (.pd d) S2) : eTest (eOp (opEq true) (eCall fRepr (lCons a lNil)) (eCall fRepr (lCons b lNil))) σ S = .ok false S2 := by
  rw [eTest_app, eOp_ok (eCall1_ok ha (fRepr_pd h S1)) (eCall1_ok hb (fRepr_pd h S2)) (neStr _ S2)]
  rfl
end DL
end
section
/-! plain graphs: fewest steps by a queue, by putting right again and again -/
namespace PG
open Classical
section
variable {A : Nat → Nat → Prop} {src : Nat → Prop}
/-- within so many steps of a source -/
def ball (A : Nat → Nat → Prop) (src : Nat → Prop) : Nat → Nat → Prop
  | 0, v => src v
  | k + 1, v => ball A src k v ∨ ∃ u, ball A src k u ∧ A u v
theorem ball_mono {k m v : Nat} (h : ball A src k v) (hm : k ≤ m) : ball A src m v := by
  induction hm with
  | refl => exact h
  | step _ ih => exact .inl ih
theorem ball_step {k u v : Nat} (h : ball A src k u) (a : A u v) : ball A src (k + 1) v := .inr ⟨u, h, a⟩
theorem ball_lt {n : Nat} (hs : ∀ v, src v → v < n) (ha : ∀ u v, A u v → v < n) : ∀ {k v : Nat}, ball A src k v → v < n
  | 0, v, h => hs v h
  | k + 1, v, h => h.elim (fun h => ball_lt hs ha h) fun ⟨u, _, a⟩ => ha u v a
/-- the fewest steps -/
def IsDist (A : Nat → Nat → Prop) (src : Nat → Prop) (v d : Nat) : Prop := ball A src d v ∧ ∀ k, ball A src k v → d ≤ k
theorem IsDist.uniq {v d e : Nat} (h : IsDist A src v d) (h' : IsDist A src v e) : d = e := Nat.le_antisymm (h.2 _ h'.1) (h'.2 _ h.1)
theorem exists_dist {v k : Nat} (h : ball A src k v) : ∃ d, IsDist A src v d := by
  induction k with
  | zero => exact ⟨0, h, fun _ _ => Nat.zero_le _⟩
  | succ k ih =>
    by_cases h' : ball A src k v
    · exact ih h'
    · exact ⟨k + 1, h, fun m hm => Nat.not_lt.mp fun hlt => h' (ball_mono hm (by omega))⟩
/-! counting -/
theorem countP_lt {p q : Nat → Bool} : ∀ {l : List Nat}, (∀ x ∈ l, q x = true → p x = true) → (∃ x ∈ l, p x = true ∧ q x = false) → l.countP q < l.countP p
  | [], _, ⟨x, hx, _⟩ => by cases hx
  | a :: l, h, ⟨x, hx, hp, hq⟩ => by
    have hl : l.countP q ≤ l.countP p := List.countP_mono_left fun y hy => h y (List.mem_cons_of_mem _ hy)
    rw [List.countP_cons, List.countP_cons]
    rcases List.mem_cons.mp hx with rfl | hx
    · rw [hp, hq]; simp; omega
    · have := countP_lt (l := l) (fun y hy => h y (List.mem_cons_of_mem _ hy)) ⟨x, hx, hp, hq⟩
      have ha := h a List.mem_cons_self
      cases e1 : q a <;> cases e2 : p a <;> simp <;> first | omega | (rw [e1, e2] at ha; simp at ha)
/-- who is reached is reached within n steps -/
theorem ball_n {n : Nat} (hs : ∀ v, src v → v < n) (ha : ∀ u v, A u v → v < n) {k v : Nat} (h : ball A src k v) : ball A src n v := by
  let c : Nat → Nat := fun k => (List.range n).countP fun v => decide (ball A src k v)
  have stab : ∀ k, (∀ v, ball A src (k + 1) v → ball A src k v) → ∀ m v, ball A src (k + m) v → ball A src k v := by
    intro k hk m
    induction m with
    | zero => exact fun v h => h
    | succ m ih =>
      intro v h
      rcases h with h | ⟨u, h, a⟩
      · exact ih v h
      · exact hk v (ball_step (ih u h) a)
  by_cases hx : ∃ j, j ≤ n ∧ ∀ v, ball A src (j + 1) v → ball A src j v
  · obtain ⟨j, hj, st⟩ := hx
    refine ball_mono ?_ hj
    rcases Nat.le_total k j with q | q
    · exact ball_mono h q
    · exact stab j st (k - j) v (by rw [show j + (k - j) = k by omega]; exact h)
  · exfalso
    have inc : ∀ j, j ≤ n → c j < c (j + 1) := fun j hj => by
      have : ∃ v, ball A src (j + 1) v ∧ ¬ ball A src j v := by
        apply Classical.byContradiction
        intro hn
        exact hx ⟨j, hj, fun v hv => Classical.byContradiction fun hb => hn ⟨v, hv, hb⟩⟩
      obtain ⟨v, hv, hb⟩ := this
      exact countP_lt (fun x _ hx => decide_eq_true (Or.inl (of_decide_eq_true hx))) ⟨v, List.mem_range.mpr (ball_lt hs ha hv), decide_eq_true hv, decide_eq_false hb⟩
    have low : ∀ j, j ≤ n + 1 → j ≤ c j := by
      intro j
      induction j with
      | zero => exact fun _ => Nat.zero_le _
      | succ j ih =>
        intro hj
        have := ih (by omega)
        have := inc j (by omega)
        omega
    have h1 := low (n + 1) (Nat.le_refl _)
    have h2 : c (n + 1) ≤ n := by
      have := List.countP_le_length (p := fun v => decide (ball A src (n + 1) v)) (l := List.range n)
      rwa [List.length_range] at this
    omega
theorem dist_le {n : Nat} (hs : ∀ v, src v → v < n) (ha : ∀ u v, A u v → v < n) {v d : Nat} (h : IsDist A src v d) : d ≤ n := h.2 _ (ball_n hs ha h.1)

/-! ### by a queue -/
abbrev look (fs : List (Nat × Nat)) (v : Nat) : Option Nat := fs.lookup v
theorem look_app {fs : List (Nat × Nat)} {o k v : Nat} (h : look fs o = none) : look (fs ++ [(o, k)]) v = if v = o then some k else look fs v := by
  induction fs with
  | nil =>
    by_cases hv : v = o
    · subst hv; simp [look, List.lookup]
    · have : (v == o) = false := by simpa using hv
      simp [look, List.lookup, hv, this]
  | cons p r ih =>
    obtain ⟨a, b⟩ := p
    unfold look at h ih ⊢
    rw [List.lookup_cons] at h
    rw [List.cons_append, List.lookup_cons, List.lookup_cons]
    cases ho : (o == a) with
    | true => rw [ho] at h; cases h
    | false =>
      rw [ho] at h
      cases hv : (v == a) with
      | true =>
        have : v ≠ o := fun e => by rw [e, ho] at hv; cases hv
        rw [if_neg this]
      | false => exact ih h
/-- one neighbour found, or not -/
def push (k : Nat) (s : List (Nat × Nat) × List Nat) (o : Nat) : List (Nat × Nat) × List Nat := if (look s.1 o).isSome = true then s else (s.1 ++ [(o, k + 1)], s.2 ++ [o])
/-- the queue's state: h the one that is gone through (or none), values k, then k + 1 -/
structure Mid (A : Nat → Nat → Prop) (src : Nat → Prop) (n : Nat) (h : Nat → Prop) (k : Nat) (q1 : List Nat) (fs : List (Nat × Nat)) (q2 : List Nat) : Prop where
  path : ∀ v d, look fs v = some d → ball A src d v
  src : ∀ v, src v → look fs v = some 0
  v1 : ∀ u ∈ q1, look fs u = some k
  v2 : ∀ u ∈ q2, look fs u = some (k + 1)
  closed : ∀ u d, look fs u = some d → u ∉ q1 → u ∉ q2 → ¬ h u → ∀ v, A u v → ∃ e, look fs v = some e ∧ e ≤ d + 1
  most : ∀ v d, look fs v = some d → d ≤ k + 1
/-- who is not found yet -/
def left (n : Nat) (fs : List (Nat × Nat)) : Nat := (List.range n).countP fun v => (look fs v).isNone
theorem Mid.push {n k h : Nat} {q1 : List Nat} {fs : List (Nat × Nat)} {q2 : List Nat} (m : Mid A src n (· = h) k q1 fs q2) (hk : look fs h = some k) {o : Nat} (a : A h o) (ho : o < n) :
    Mid A src n (· = h) k q1 (PG.push k (fs, q2) o).1 (PG.push k (fs, q2) o).2 ∧ look (PG.push k (fs, q2) o).1 h = some k ∧ (∃ e, look (PG.push k (fs, q2) o).1 o = some e ∧ e ≤ k + 1) ∧ (∀ v d, look fs v = some d → look (PG.push k (fs, q2) o).1 v = some d) ∧
      left n (PG.push k (fs, q2) o).1 + (PG.push k (fs, q2) o).2.length ≤ left n fs + q2.length := by
  unfold PG.push
  by_cases hs : (look fs o).isSome = true
  · simp only [hs, if_true]
    obtain ⟨e, he⟩ := Option.isSome_iff_exists.mp hs
    exact ⟨m, hk, ⟨e, he, m.most _ _ he⟩, fun _ _ e => e, Nat.le_refl _⟩
  · have hs : (look fs o).isSome = false := Bool.eq_false_iff.mpr hs
    simp only [hs, if_false, Bool.false_eq_true]
    have hn : look fs o = none := by
      cases e : look fs o with
      | none => rfl
      | some d => rw [e] at hs; cases hs
    have ne : ∀ {v d}, look fs v = some d → v ≠ o := fun e z => by rw [z, hn] at e; cases e
    have keep : ∀ v d, look fs v = some d → look (fs ++ [(o, k + 1)]) v = some d := fun v d e => by rw [look_app hn, if_neg (ne e)]; exact e
    have new : look (fs ++ [(o, k + 1)]) o = some (k + 1) := by rw [look_app hn, if_pos rfl]
    have back : ∀ v d, look (fs ++ [(o, k + 1)]) v = some d → (v = o ∧ d = k + 1) ∨ look fs v = some d := fun v d e => by
      rw [look_app hn] at e
      split at e
      · rename_i hv; cases e; exact .inl ⟨hv, rfl⟩
      · exact .inr e
    refine ⟨⟨fun v d e => ?_, fun v s => keep _ _ (m.src v s), fun u hu => keep _ _ (m.v1 u hu), fun u hu => ?_, fun u d e n1 n2 nh v av => ?_, fun v d e => ?_⟩, keep _ _ hk, ⟨_, new, Nat.le_refl _⟩, keep, ?_⟩
    · rcases back v d e with ⟨rfl, rfl⟩ | e
      · exact ball_step (m.path _ _ hk) a
      · exact m.path _ _ e
    · rcases List.mem_append.mp hu with hu | hu
      · exact keep _ _ (m.v2 u hu)
      · rw [show u = o by simpa using hu]; exact new
    · rcases back u d e with ⟨rfl, rfl⟩ | e
      · exact absurd (List.mem_append.mpr (.inr (by simp))) n2
      · obtain ⟨x, ex, hx⟩ := m.closed u d e n1 (fun z => n2 (List.mem_append.mpr (.inl z))) nh v av
        exact ⟨x, keep _ _ ex, hx⟩
    · rcases back v d e with ⟨_, rfl⟩ | e
      · exact Nat.le_refl _
      · exact m.most _ _ e
    · have : left n (fs ++ [(o, k + 1)]) < left n fs := by
        refine countP_lt (fun x _ hx => ?_) ⟨o, List.mem_range.mpr ho, by rw [hn]; rfl, by rw [new]; rfl⟩
        cases e : look fs x with
        | none => rfl
        | some d => rw [keep _ _ e] at hx; cases hx
      rw [List.length_append, List.length_singleton]
      omega
theorem Mid.all {n k h : Nat} {q1 : List Nat} : ∀ {ns : List Nat} {fs : List (Nat × Nat)} {q2 : List Nat}, Mid A src n (· = h) k q1 fs q2 → look fs h = some k → (∀ o ∈ ns, A h o ∧ o < n) →
    Mid A src n (· = h) k q1 (ns.foldl (PG.push k) (fs, q2)).1 (ns.foldl (PG.push k) (fs, q2)).2 ∧ look (ns.foldl (PG.push k) (fs, q2)).1 h = some k ∧ (∀ o ∈ ns, ∃ e, look (ns.foldl (PG.push k) (fs, q2)).1 o = some e ∧ e ≤ k + 1) ∧ (∀ v d, look fs v = some d → look (ns.foldl (PG.push k) (fs, q2)).1 v = some d) ∧
      left n (ns.foldl (PG.push k) (fs, q2)).1 + (ns.foldl (PG.push k) (fs, q2)).2.length ≤ left n fs + q2.length
  | [], fs, q2, m, hk, _ => ⟨m, hk, fun _ h => (nomatch h), fun _ _ e => e, Nat.le_refl _⟩
  | o :: ns, fs, q2, m, hk, ha => by
    obtain ⟨a, ho⟩ := ha o List.mem_cons_self
    obtain ⟨m1, k1, ⟨e, he, hle⟩, kp, l1⟩ := m.push hk a ho
    obtain ⟨m2, k2, h2, kp2, l2⟩ := Mid.all (ns := ns) m1 k1 fun o ho => ha o (List.mem_cons_of_mem _ ho)
    rw [List.foldl_cons]
    refine ⟨m2, k2, fun x hx => ?_, fun v d e => kp2 _ _ (kp _ _ e), Nat.le_trans l2 l1⟩
    rcases List.mem_cons.mp hx with rfl | hx
    · exact ⟨e, kp2 _ _ he, hle⟩
    · exact h2 x hx
/-- between two turns -/
def Inv (A : Nat → Nat → Prop) (src : Nat → Prop) (n : Nat) (fs : List (Nat × Nat)) (q : List Nat) : Prop := ∃ k q1 q2, q = q1 ++ q2 ∧ Mid A src n (fun _ => False) k q1 fs q2
theorem Inv.turn {n h : Nat} {q : List Nat} {fs : List (Nat × Nat)} {ns : List Nat} (i : Inv A src n fs (h :: q)) (hn : ∀ o, o ∈ ns ↔ A h o) (hlt : ∀ u v, A u v → v < n) : ∃ k, look fs h = some k ∧
    Inv A src n (ns.foldl (PG.push k) (fs, q)).1 (ns.foldl (PG.push k) (fs, q)).2 ∧ left n (ns.foldl (PG.push k) (fs, q)).1 + (ns.foldl (PG.push k) (fs, q)).2.length < left n fs + (h :: q).length := by
  obtain ⟨k, q1, q2, e, m⟩ := i
  -- the head stands among the first values
  have norm : ∃ k r1 r2, h :: q = h :: (r1 ++ r2) ∧ Mid A src n (fun _ => False) k (h :: r1) fs r2 := by
    cases q1 with
    | cons x r1 => cases e; exact ⟨k, r1, q2, rfl, m⟩
    | nil =>
      have e : h :: q = q2 := e
      subst e
      exact ⟨k + 1, q, [], by simp, m.path, m.src, fun u hu => m.v2 u hu, fun u hu => (nomatch hu), fun u d ed n1 _ nh v a => m.closed u d ed (fun z => (nomatch z)) n1 nh v a, fun v d ed => Nat.le_succ_of_le (m.most v d ed)⟩
  obtain ⟨k, r1, r2, e, m⟩ := norm
  have e : q = r1 ++ r2 := List.tail_eq_of_cons_eq e
  subst e
  have hk := m.v1 h List.mem_cons_self
  have m1 : Mid A src n (· = h) k r1 fs r2 := ⟨m.path, m.src, fun u hu => m.v1 u (List.mem_cons_of_mem _ hu), m.v2, fun u d ed n1 n2 nh v a => m.closed u d ed (fun z => by
    rcases List.mem_cons.mp z with z | z
    · exact nh z
    · exact n1 z) n2 (fun z => z) v a, m.most⟩
  obtain ⟨m2, k2, h2, _, l2⟩ := m1.all hk (ns := ns) fun o ho => ⟨(hn o).mp ho, hlt _ _ ((hn o).mp ho)⟩
  have pre : ∀ (ns : List Nat) (fs : List (Nat × Nat)) (a b : List Nat), ns.foldl (PG.push k) (fs, a ++ b) = ((ns.foldl (PG.push k) (fs, b)).1, a ++ (ns.foldl (PG.push k) (fs, b)).2) := by
    intro ns
    induction ns with
    | nil => intro fs a b; rfl
    | cons o ns ih =>
      intro fs a b
      rw [List.foldl_cons, List.foldl_cons]
      have : PG.push k (fs, a ++ b) o = ((PG.push k (fs, b) o).1, a ++ (PG.push k (fs, b) o).2) := by
        unfold PG.push
        by_cases hs : (look fs o).isSome = true
        · simp only [hs, if_true]
        · simp only [hs, if_false, List.append_assoc]; rfl
      rw [this, ih]
  refine ⟨k, hk, ?_, ?_⟩
  · rw [pre]
    refine ⟨k, r1, _, rfl, m2.path, m2.src, m2.v1, m2.v2, fun u d ed n1 n2 _ v a => ?_, m2.most⟩
    by_cases hu : u = h
    · subst hu
      rw [k2] at ed; cases ed
      exact h2 v ((hn v).mpr a)
    · exact m2.closed u d ed n1 n2 hu v a
  · rw [pre]
    simp only [List.length_append, List.length_cons]
    omega
/-- nobody waits: the fewest steps are found -/
theorem Inv.done {n : Nat} {fs : List (Nat × Nat)} (i : Inv A src n fs []) (v d : Nat) : look fs v = some d ↔ IsDist A src v d := by
  obtain ⟨k, q1, q2, e, m⟩ := i
  have e1 : q1 = [] := (List.append_eq_nil_iff.mp e.symm).1
  have e2 : q2 = [] := (List.append_eq_nil_iff.mp e.symm).2
  subst e1 e2
  have found : ∀ k v, ball A src k v → ∃ e, look fs v = some e ∧ e ≤ k := by
    intro k
    induction k with
    | zero => exact fun v s => ⟨0, m.src v s, Nat.le_refl _⟩
    | succ k ih =>
      intro v h
      rcases h with h | ⟨u, h, a⟩
      · obtain ⟨e, he, hle⟩ := ih v h
        exact ⟨e, he, by omega⟩
      · obtain ⟨e, he, hle⟩ := ih u h
        obtain ⟨x, hx, hxle⟩ := m.closed u e he (fun z => (nomatch z)) (fun z => (nomatch z)) (fun z => z) v a
        exact ⟨x, hx, by omega⟩
  constructor
  · intro hv
    refine ⟨m.path v d hv, fun k hk => ?_⟩
    obtain ⟨e, he, hle⟩ := found k v hk
    rw [hv] at he; cases he
    exact hle
  · intro hd
    obtain ⟨e, he, hle⟩ := found d v hd.1
    have := hd.2 e (m.path v e he)
    rw [he, show e = d by omega]
theorem Inv.noway {n : Nat} {fs : List (Nat × Nat)} (i : Inv A src n fs []) {v : Nat} (h : look fs v = none) (k : Nat) : ¬ ball A src k v := fun hb => by
  obtain ⟨d, hd⟩ := exists_dist hb
  rw [(i.done v d).mpr hd] at h
  cases h
/-- at the start -/
theorem Inv.start {n : Nat} {l : List Nat} (hs : ∀ v, v ∈ l ↔ src v) {fs : List (Nat × Nat)} (hf : ∀ v, look fs v = if v ∈ l then some 0 else none) : Inv A src n fs l := by
  have z : ∀ v d, look fs v = some d → v ∈ l ∧ d = 0 := fun v d e => by
    rw [hf] at e
    split at e
    · cases e; exact ⟨by assumption, rfl⟩
    · cases e
  refine ⟨0, l, [], by simp, fun v d e => ?_, fun v s => ?_, fun u hu => ?_, fun u hu => (nomatch hu), fun u d e n1 => absurd (z u d e).1 n1, fun v d e => ?_⟩
  · obtain ⟨h, rfl⟩ := z v d e
    exact (hs v).mp h
  · rw [hf, if_pos ((hs v).mpr s)]
  · rw [hf, if_pos hu]
  · rw [(z v d e).2]; exact Nat.zero_le _

/-! ### by putting right again and again -/
def relax (p : Nat × Nat) (xs : List Nat) : List Nat :=
  let ys := xs.set p.1 (min (xs.getD p.1 0) (xs.getD p.2 0 + 1))
  ys.set p.2 (min (ys.getD p.2 0) (ys.getD p.1 0 + 1))
theorem getD_set {xs : List Nat} {i j x : Nat} (hi : i < xs.length) : (xs.set i x).getD j 0 = if j = i then x else xs.getD j 0 := by
  by_cases h : j = i
  · subst h
    rw [if_pos rfl, List.getD_eq_getElem?_getD, List.getElem?_set_self hi]; rfl
  · rw [if_neg h, List.getD_eq_getElem?_getD, List.getElem?_set_ne (fun e => h e.symm), ← List.getD_eq_getElem?_getD]
structure Low (A : Nat → Nat → Prop) (src : Nat → Prop) (n : Nat) (xs : List Nat) : Prop where
  len : xs.length = n
  most : ∀ v, v < n → xs.getD v 0 ≤ 99
  path : ∀ v, v < n → xs.getD v 0 < 99 → ball A src (xs.getD v 0) v
theorem Low.relax {n : Nat} {xs : List Nat} (l : Low A src n xs) {a b : Nat} (ha : a < n) (hb : b < n) (h : A a b) (h' : A b a) : Low A src n (relax (a, b) xs) ∧ (∀ v, (PG.relax (a, b) xs).getD v 0 ≤ xs.getD v 0) ∧
    (PG.relax (a, b) xs).getD a 0 ≤ xs.getD b 0 + 1 ∧ (PG.relax (a, b) xs).getD b 0 ≤ xs.getD a 0 + 1 := by
  unfold PG.relax
  simp only
  have la : a < xs.length := by rw [l.len]; exact ha
  have lb : b < (xs.set a (min (xs.getD a 0) (xs.getD b 0 + 1))).length := by rw [List.length_set, l.len]; exact hb
  have e1 : ∀ v, (xs.set a (min (xs.getD a 0) (xs.getD b 0 + 1))).getD v 0 = if v = a then min (xs.getD a 0) (xs.getD b 0 + 1) else xs.getD v 0 := fun v => getD_set la
  have e2 : ∀ v, ((xs.set a (min (xs.getD a 0) (xs.getD b 0 + 1))).set b (min ((xs.set a (min (xs.getD a 0) (xs.getD b 0 + 1))).getD b 0) ((xs.set a (min (xs.getD a 0) (xs.getD b 0 + 1))).getD a 0 + 1))).getD v 0 =
      if v = b then min (if b = a then min (xs.getD a 0) (xs.getD b 0 + 1) else xs.getD b 0) (min (xs.getD a 0) (xs.getD b 0 + 1) + 1) else if v = a then min (xs.getD a 0) (xs.getD b 0 + 1) else xs.getD v 0 := fun v => by
    rw [getD_set lb, e1, e1, e1, if_pos rfl]
  have pa : min (xs.getD a 0) (xs.getD b 0 + 1) < 99 → ball A src (min (xs.getD a 0) (xs.getD b 0 + 1)) a := fun hlt => by
    rcases Nat.le_total (xs.getD a 0) (xs.getD b 0 + 1) with q | q
    · rw [Nat.min_eq_left q] at hlt ⊢; exact l.path a ha hlt
    · rw [Nat.min_eq_right q] at hlt ⊢; exact ball_step (l.path b hb (by omega)) h'
  have m1 := l.most a ha
  have m2 := l.most b hb
  refine ⟨⟨by rw [List.length_set, List.length_set, l.len], fun v hv => ?_, fun v hv hlt => ?_⟩, fun v => ?_, ?_, ?_⟩
  · rw [e2]
    have := l.most v hv
    split
    · split <;> omega
    · split <;> omega
  · rw [e2] at hlt ⊢
    split at hlt
    · rename_i hvb
      subst hvb
      rw [if_pos rfl]
      by_cases hba : v = a
      · subst hba
        rw [if_pos rfl] at hlt ⊢
        rw [Nat.min_eq_left (by omega)] at hlt ⊢
        exact pa hlt
      · rw [if_neg hba] at hlt ⊢
        rcases Nat.le_total (xs.getD v 0) (min (xs.getD a 0) (xs.getD v 0 + 1) + 1) with q | q
        · rw [Nat.min_eq_left q] at hlt ⊢; exact l.path v hv hlt
        · rw [Nat.min_eq_right q] at hlt ⊢; exact ball_step (pa (by omega)) h
    · rename_i hvb
      rw [if_neg hvb]
      split at hlt
      · rename_i hva
        subst hva
        rw [if_pos rfl]
        exact pa hlt
      · rename_i hva
        rw [if_neg hva]
        exact l.path v hv hlt
  · rw [e2]
    split
    · rename_i hvb
      subst hvb
      split
      · rename_i hba; subst hba; omega
      · omega
    · split
      · rename_i hva; subst hva; omega
      · exact Nat.le_refl _
  · rw [e2]
    split
    · rename_i hab; subst hab; split <;> omega
    · rw [if_pos rfl]; omega
  · rw [e2, if_pos rfl]
    split <;> omega
def Up (A : Nat → Nat → Prop) (src : Nat → Prop) (n t : Nat) (xs : List Nat) : Prop := ∀ v k, v < n → k ≤ t → ball A src k v → xs.getD v 0 ≤ k
theorem round {n t : Nat} : ∀ {ts : List (Nat × Nat)} {xs : List Nat}, (∀ p ∈ ts, p.1 < n ∧ p.2 < n ∧ A p.1 p.2 ∧ A p.2 p.1) → Low A src n xs → Up A src n t xs →
    Low A src n (ts.foldl (fun xs p => relax p xs) xs) ∧ (∀ v, (ts.foldl (fun xs p => relax p xs) xs).getD v 0 ≤ xs.getD v 0) ∧
      ∀ p ∈ ts, (ball A src t p.1 → (ts.foldl (fun xs p => relax p xs) xs).getD p.2 0 ≤ t + 1) ∧ (ball A src t p.2 → (ts.foldl (fun xs p => relax p xs) xs).getD p.1 0 ≤ t + 1)
  | [], xs, _, l, u => ⟨l, fun _ => Nat.le_refl _, fun _ h => (nomatch h)⟩
  | (a, b) :: ts, xs, hp, l, u => by
    obtain ⟨ha, hb, h1, h2⟩ := hp (a, b) List.mem_cons_self
    obtain ⟨l1, d1, r1, r2⟩ := l.relax ha hb h1 h2
    have u1 : Up A src n t (relax (a, b) xs) := fun v k hv hk hb => Nat.le_trans (d1 v) (u v k hv hk hb)
    obtain ⟨l2, d2, r3⟩ := round (ts := ts) (fun p hq => hp p (List.mem_cons_of_mem _ hq)) l1 u1
    rw [List.foldl_cons]
    refine ⟨l2, fun v => Nat.le_trans (d2 v) (d1 v), fun p hq => ?_⟩
    rcases List.mem_cons.mp hq with rfl | hq
    · refine ⟨fun h => ?_, fun h => ?_⟩
      · have := u a t ha (Nat.le_refl _) h
        have := d2 b
        simp only at *
        omega
      · have := u b t hb (Nat.le_refl _) h
        have := d2 a
        simp only at *
        omega
    · exact r3 p hq
theorem Up.next {n t : Nat} {ts : List (Nat × Nat)} {xs : List Nat} (hp : ∀ p ∈ ts, p.1 < n ∧ p.2 < n ∧ A p.1 p.2 ∧ A p.2 p.1) (hA : ∀ u v, A u v → (u, v) ∈ ts ∨ (v, u) ∈ ts) (l : Low A src n xs) (u : Up A src n t xs) :
    Low A src n (ts.foldl (fun xs p => relax p xs) xs) ∧ Up A src n (t + 1) (ts.foldl (fun xs p => relax p xs) xs) := by
  obtain ⟨l2, d2, r⟩ := round hp l u
  refine ⟨l2, fun v k hv hk hb => ?_⟩
  rcases Nat.lt_or_ge k (t + 1) with q | q
  · exact Nat.le_trans (d2 v) (u v k hv (by omega) hb)
  · have e : k = t + 1 := by omega
    subst e
    rcases hb with hb | ⟨w, hw, a⟩
    · have := u v t hv (Nat.le_refl _) hb
      have := d2 v
      omega
    · rcases hA w v a with m | m
      · exact (r _ m).1 hw
      · exact (r _ m).2 hw
/-- after n rounds -/
theorem low_up_dist {n : Nat} {xs : List Nat} (hn : n < 99) (hs : ∀ v, src v → v < n) (ha : ∀ u v, A u v → v < n) (l : Low A src n xs) (u : Up A src n n xs) {v : Nat} (hv : v < n) :
    (∀ d, IsDist A src v d → xs.getD v 0 = d) ∧ ((∀ k, ¬ ball A src k v) → xs.getD v 0 = 99) := by
  refine ⟨fun d hd => ?_, fun hno => ?_⟩
  · have h1 := u v d hv (dist_le hs ha hd) hd.1
    have h2 := dist_le hs ha hd
    have h3 := hd.2 _ (l.path v hv (by omega))
    omega
  · have h1 := l.most v hv
    rcases Nat.lt_or_ge (xs.getD v 0) 99 with q | q
    · exact absurd (l.path v hv q) (hno _)
    · omega
end
end PG
end
section
namespace DL
open PySem PySem.Spec PyProof.Rows L2
/-! ### known words, how long a repr with them is -/
def tmOps : List Str := ["plus", "minus", "times", "over", "rest", "less", "same", "low", "high"]
def tmLvs : List Str := ["word", "ties", "own", "sum", "least", "most"]
def tmWords : List Str := ["plus", "minus", "times", "over", "rest", "less", "same", "low", "high", "word", "ties", "own", "sum", "least", "most", "if", "many"]
theorem tmWords_ok : ∀ x ∈ tmWords, PyData.strOk x = true ∧ (PyData.str x).shown.length ≤ 10 ∧ (PyData.str x).showable = true := by decide +kernel
mutual
def wtW : PyData → Nat
  | .none => 5
  | .bool _ => 5
  | .int _ => 12
  | .str _ => 10
  | .list xs => wtWAll xs + 3
  | .tuple xs => wtWAll xs + 3
  | .dict _ => 0
def wtWAll : List PyData → Nat
  | [] => 0
  | x :: xs => wtW x + 2 + wtWAll xs
end
mutual
def smallW : PyData → Bool
  | .none => true
  | .bool _ => true
  | .int i => decide (0 ≤ i) && decide (i < 10 ^ 10)
  | .str x => decide (x ∈ tmWords)
  | .list xs => smallWAll xs
  | .tuple xs => smallWAll xs
  | .dict _ => false
def smallWAll : List PyData → Bool
  | [] => true
  | x :: xs => smallW x && smallWAll xs
end
mutual
theorem smallW_shown : ∀ d : PyData, smallW d = true → d.shown.length ≤ wtW d ∧ d.showable = true ∧ d.hasDict = false
  | .none, _ => ⟨by show (("None" : Str)).length ≤ 5; decide, rfl, rfl⟩
  | .bool true, _ => ⟨by show (("True" : Str)).length ≤ 5; decide, rfl, rfl⟩
  | .bool false, _ => ⟨by show (("False" : Str)).length ≤ 5; decide, rfl, rfl⟩
  | .int i, h => by
    have := small_shown (.int i) (by unfold smallW at h; unfold small; exact h)
    exact this
  | .str x, h => by
    have := tmWords_ok x (by unfold smallW at h; exact of_decide_eq_true h)
    exact ⟨this.2.1, this.2.2, by simp [PyData.hasDict]⟩
  | .dict _, h => by simp [smallW] at h
  | .list xs, h => by
    obtain ⟨h1, h2, h3, h4⟩ := smallW_all xs (by simpa [smallW] using h)
    refine ⟨?_, by simpa [PyData.showable] using h2, by simpa [PyData.hasDict] using h3⟩
    have := listText_len_le (PyData.shownAll xs)
    show (listText (PyData.shownAll xs)).length ≤ wtWAll xs + 3
    omega
  | .tuple xs, h => by
    obtain ⟨h1, h2, h3, h4⟩ := smallW_all xs (by simpa [smallW] using h)
    refine ⟨?_, by simpa [PyData.showable] using h2, by simpa [PyData.hasDict] using h3⟩
    have := tupleText_len_le (PyData.shownAll xs)
    show (tupleText (PyData.shownAll xs)).length ≤ wtWAll xs + 3
    omega
theorem smallW_all : ∀ xs : List PyData, smallWAll xs = true → ((PyData.shownAll xs).map (·.length)).sum + 2 * (PyData.shownAll xs).length ≤ wtWAll xs ∧ PyData.showableAll xs = true ∧ PyData.hasDictAll xs = false ∧ True
  | [], _ => ⟨Nat.le_refl _, rfl, rfl, trivial⟩
  | x :: xs, h => by
    unfold smallWAll at h
    rw [Bool.and_eq_true] at h
    obtain ⟨a1, a2, a3⟩ := smallW_shown x h.1
    obtain ⟨b1, b2, b3, _⟩ := smallW_all xs h.2
    refine ⟨?_, by rw [PyData.showableAll, a2, b2]; rfl, by rw [PyData.hasDictAll, a3, b3]; rfl, trivial⟩
    rw [PyData.shownAll, List.map_cons, List.sum_cons, List.length_cons, wtWAll]
    omega
end
theorem reprOk_smallW {d : PyData} (h : smallW d = true) (hd : d.depth ≤ 60) (hw : wtW d ≤ 1000000) : reprOk d = true := by
  obtain ⟨h1, h2, h3⟩ := smallW_shown d h
  unfold reprOk
  rw [h2, h3, decide_eq_true hd, decide_eq_true (show d.shown.length ≤ sizeLine by rw [sizeLine_eq]; omega)]
  rfl
theorem lvs_words : ∀ x ∈ tmLvs, x ∈ tmWords := by decide
theorem ops_words : ∀ x ∈ tmOps, x ∈ tmWords := by decide
theorem lvs_not : ∀ x ∈ tmLvs, x ≠ ("many" : Str) ∧ x ≠ ("if" : Str) ∧ x ∉ tmOps := by decide
theorem ops_not : ∀ x ∈ tmOps, x ≠ ("many" : Str) ∧ x ≠ ("if" : Str) ∧ x ∉ tmLvs ∧ x ∉ (["sum", "least", "most"] : List Str) := by decide
theorem mkLst0 (σ : Sl) (S : Sto) : mkLst [] σ S = .ok (.lst []) S := by
  unfold mkLst
  simp only [pdL_nil]
  rw [if_pos (show ([] : List PyData).length ≤ sizeLine from Nat.zero_le _)]
/-! ### terms -/
inductive Trm where
  | num (i : Nat)
  | leaf (x : Str)
  | many (k : Nat)
  | op (x : Str) (a b : Trm)
  | cond (c a b : Trm)
namespace Trm
def enc : Trm → PyData
  | num i => .int i
  | leaf x => .tuple [.str x]
  | many k => .tuple [.str "many", .int k]
  | op x a b => .tuple [.str x, enc a, enc b]
  | cond c a b => .tuple [.str "if", enc c, enc a, enc b]
def Wf : Trm → Prop
  | num i => i < 997
  | leaf x => x ∈ tmLvs
  | many k => k < 997
  | op x a b => x ∈ tmOps ∧ Wf a ∧ Wf b
  | cond c a b => Wf c ∧ Wf a ∧ Wf b
def dep : Trm → Nat
  | num _ => 0
  | leaf _ => 0
  | many _ => 0
  | op _ a b => 1 + max (dep a) (dep b)
  | cond c a b => 1 + max (dep c) (max (dep a) (dep b))
def sz : Trm → Nat
  | num _ => 1
  | leaf _ => 1
  | many _ => 1
  | op _ a b => 1 + (sz a + sz b)
  | cond c a b => 1 + (sz c + (sz a + sz b))
/-- whether all leaves are among some -/
def inL (ls : List Str) : Trm → Bool
  | num _ => true
  | leaf x => decide (x ∈ ls)
  | many _ => decide (("sum" : Str) ∈ ls)
  | op _ a b => inL ls a && inL ls b
  | cond c a b => inL ls c && (inL ls a && inL ls b)
def looks : Trm → Bool
  | num _ => false
  | leaf x => decide (x ∈ (["sum", "least", "most"] : List Str))
  | many _ => true
  | op _ a b => looks a || looks b
  | cond c a b => looks c || (looks a || looks b)
theorem small_enc : ∀ t : Trm, t.Wf → smallW t.enc = true
  | num i, h => by
    have h : i < 997 := h
    simp only [enc, smallW, Bool.and_eq_true, decide_eq_true_eq]
    omega
  | leaf x, h => by
    have : x ∈ tmWords := lvs_words x h
    simp [enc, smallW, smallWAll, this]
  | many k, h => by
    have h : k < 997 := h
    simp only [enc, smallW, smallWAll, Bool.and_eq_true, decide_eq_true_eq, Bool.and_true]
    exact ⟨by decide, by omega, by omega⟩
  | op x a b, h => by
    obtain ⟨hx, ha, hb⟩ := h
    have : x ∈ tmWords := ops_words x hx
    simp [enc, smallW, smallWAll, this, small_enc a ha, small_enc b hb]
  | cond c a b, h => by
    obtain ⟨hc, ha, hb⟩ := h
    have : ("if" : Str) ∈ tmWords := by decide
    simp [enc, smallW, smallWAll, this, small_enc a ha, small_enc b hb, small_enc c hc]
theorem wt_enc : ∀ t : Trm, wtW t.enc + 8 ≤ 50 * t.sz
  | num i => by simp [enc, wtW, sz]
  | leaf x => by simp [enc, wtW, wtWAll, sz]
  | many k => by simp [enc, wtW, wtWAll, sz]
  | op x a b => by
    have h1 := wt_enc a
    have h2 := wt_enc b
    simp only [enc, wtW, wtWAll, sz]
    omega
  | cond c a b => by
    have h0 := wt_enc c
    have h1 := wt_enc a
    have h2 := wt_enc b
    simp only [enc, wtW, wtWAll, sz]
    omega
theorem depth_enc : ∀ t : Trm, t.enc.depth ≤ t.dep + 1
  | num i => by simp [enc, PyData.depth]
  | leaf x => by simp [enc, PyData.depth, PyData.depthAll, dep]
  | many k => by simp [enc, PyData.depth, PyData.depthAll, dep]
  | op x a b => by
    have h1 := depth_enc a
    have h2 := depth_enc b
    simp only [enc, PyData.depth, PyData.depthAll, dep]
    omega
  | cond c a b => by
    have h0 := depth_enc c
    have h1 := depth_enc a
    have h2 := depth_enc b
    simp only [enc, PyData.depth, PyData.depthAll, dep]
    omega
end Trm
/-! ### texts -/
theorem okEq_str {x : Str} (h : x ∈ tmWords) : okEq (.str x) = true := by
  unfold okEq SeqAt.shaped
  simp [PyData.canLay0, PyData.depth, (tmWords_ok x h).1]
theorem okEq_strs {ls : List Str} (h : ∀ x ∈ ls, x ∈ tmWords) : okEq (.tuple (ls.map .str)) = true := by
  have h1 : PyData.canLayAll0 (ls.map PyData.str) = true ∧ PyData.depthAll (ls.map PyData.str) = 0 := by
    induction ls with
    | nil => exact ⟨rfl, rfl⟩
    | cons a r ih =>
      obtain ⟨i1, i2⟩ := ih fun x hx => h x (List.mem_cons_of_mem _ hx)
      simp only [List.map_cons, PyData.canLayAll0, PyData.depthAll, i1, i2, PyData.canLay0, PyData.depth, (tmWords_ok a (h a List.mem_cons_self)).1]
      exact ⟨rfl, rfl⟩
  unfold okEq SeqAt.shaped
  simp [PyData.canLay0, PyData.depth, h1.1, h1.2]
theorem opEq_str (ne : Bool) (x y : Str) (S : Sto) : opEq ne (.str x) (.str y) S = .ok (.bl (decide (x = y) ^^ ne)) S := rfl
theorem any_str (x : Str) : ∀ ls : List Str, ((ls.map PyData.str).any fun z => PyData.eqv z (.str x)) = decide (x ∈ ls)
  | [] => rfl
  | y :: r => by
    rw [List.map_cons, List.any_cons, any_str x r]
    have e : PyData.eqv (.str y) (.str x) = decide (y = x) := by
      show (y == x) = _
      by_cases h : y = x
      · simp [h]
      · simp [h]
    rw [e]
    by_cases h : y = x
    · simp [h]
    · have h' : ¬ x = y := fun z => h z.symm
      simp [h, h', List.mem_cons]
theorem opIn_str {x : Str} {ls : List Str} (hx : x ∈ tmWords) (hl : ∀ z ∈ ls, z ∈ tmWords) (ne : Bool) (S : Sto) : opIn ne (.str x) (.tup (ls.map .str)) S = .ok (.bl (decide (x ∈ ls) ^^ ne)) S := by
  unfold opIn
  simp only [okEq_str hx, okEq_strs hl, Bool.and_self, if_true, any_str]
theorem eTabIn_yes {ne : Bool} {ks : List (Str × Str)} {no : List Str} {m : DM D} {z : Str} {σ : Sl} {S S' : Sto} (h : m σ S = .ok (.str z) S') (hz : z ∈ ks.map (·.1)) : eTabIn ne ks no m σ S = .ok (.bl (!ne)) S' := by
  unfold eTabIn
  rw [mBind_app, h, Out.bind_ok]
  unfold tabIn
  dsimp only
  rw [if_pos hz]
theorem eTabIn_no {ne : Bool} {ks : List (Str × Str)} {no : List Str} {m : DM D} {z : Str} {σ : Sl} {S S' : Sto} (h : m σ S = .ok (.str z) S') (hz : z ∉ ks.map (·.1)) (hn : z ∈ no) : eTabIn ne ks no m σ S = .ok (.bl ne) S' := by
  unfold eTabIn
  rw [mBind_app, h, Out.bind_ok]
  unfold tabIn
  dsimp only
  rw [if_neg hz, if_pos hn]
theorem star1_ok {i j : Nat} {m : DM D} {x : PyData} {r : List PyData} {σ : Sl} {S S' : Sto} (h : m σ S = .ok (.tup (x :: r)) S') : sStarF 1 (tgCons (tgName i) (tgCons (tgName j) tgNil)) m σ S = .ok (.next ((σ.set i (some (.pd x))).set j (some (.lst r)))) S' := by
  unfold sStarF
  rw [h, Out.bind_ok]
  have e1 : asQ S' (.tup (x :: r)) = some (D.pd x :: r.map .pd) := by simp [asQ]
  simp only [e1, List.drop_succ_cons, List.drop_zero, pdL_map]
  rw [if_pos (by simp)]
  rfl
end DL
namespace DL
open PySem PySem.Spec PyProof.Rows L2
theorem sSeq_ret {a b : DM Fl} {σ : Sl} {d : D} {S S' : Sto} (h : a σ S = .ok (.ret d) S') : sSeq a b σ S = .ok (.ret d) S' := by rw [sSeq_app, h]; rfl
theorem sIf_t {c : DM Bool} {a b : DM Fl} {σ : Sl} {S S' : Sto} (h : c σ S = .ok true S') : sIf c a b σ S = a σ S' := by rw [sIf_app, h]; rfl
theorem sIf_f {c : DM Bool} {a b : DM Fl} {σ : Sl} {S S' : Sto} (h : c σ S = .ok false S') : sIf c a b σ S = b σ S' := by rw [sIf_app, h]; rfl
theorem mkTup0 (σ : Sl) (S : Sto) : mkTup [] σ S = .ok (.tup []) S := by
  unfold mkTup
  simp only [pdL_nil]
  rw [if_pos (show ([] : List PyData).length ≤ sizeLine from Nat.zero_le _)]
theorem opEqT_cons (x : PyData) (r : List PyData) (S : Sto) : opEqT false (.tup (x :: r)) (.tup []) S = .ok (.bl false) S := rfl
theorem opEqT_nil (S : Sto) : opEqT false (.tup []) (.tup []) S = .ok (.bl true) S := rfl
def optN : Option Nat → PyData
  | some n => .int n
  | none => .none
theorem okEq_none : okEq .none = true := by unfold okEq SeqAt.shaped; simp [PyData.canLay0, PyData.depth]
theorem okEq_opts (l : List (Option Nat)) : okEq (.list (l.map optN)) = true := by
  have h1 : PyData.canLayAll0 (l.map optN) = true ∧ PyData.depthAll (l.map optN) = 0 := by
    induction l with
    | nil => exact ⟨rfl, rfl⟩
    | cons a r ih =>
      obtain ⟨i1, i2⟩ := ih
      cases a <;> simp only [List.map_cons, PyData.canLayAll0, PyData.depthAll, i1, i2, optN, PyData.canLay0, PyData.depth] <;> exact ⟨rfl, rfl⟩
  unfold okEq SeqAt.shaped
  simp [PyData.canLay0, PyData.depth, h1.1, h1.2]
theorem any_opts : ∀ l : List (Option Nat), ((l.map optN).any fun z => PyData.eqv z .none) = l.any (·.isNone)
  | [] => rfl
  | none :: r => by rw [List.map_cons, List.any_cons, List.any_cons, any_opts r]; rfl
  | some n :: r => by rw [List.map_cons, List.any_cons, List.any_cons, any_opts r]; rfl
theorem opIn_opts (l : List (Option Nat)) (S : Sto) : opIn false .non (.lst (l.map optN)) S = .ok (.bl (l.any (·.isNone))) S := by
  unfold opIn
  simp only [view, okEq_none, okEq_opts, Bool.and_self, if_true, any_opts, Bool.xor_false]
theorem fSum1_ints (l : List Int) (S : Sto) : fSum1 [.lst (l.map .int)] S = .ok (.int l.sum) S := by
  unfold fSum1 intsOf asL
  dsimp only
  rw [pdL_map]
  dsimp only
  rw [intsL_map]
def sumO (l : List (Option Nat)) : Option Nat := if l.any (·.isNone) = true then none else some (1 + (l.map (·.getD 0)).sum)
theorem sum_opts : ∀ l : List (Option Nat), l.any (·.isNone) = false → l.map optN = (l.map fun o => ((o.getD 0 : Nat) : Int)).map .int ∧ (l.map fun o => ((o.getD 0 : Nat) : Int)).sum = ((l.map (·.getD 0)).sum : Nat)
  | [], _ => ⟨rfl, rfl⟩
  | none :: r, h => by simp at h
  | some n :: r, h => by
    obtain ⟨h1, h2⟩ := sum_opts r (by simpa using h)
    refine ⟨by simp only [List.map_cons, h1]; rfl, ?_⟩
    simp only [List.map_cons, List.sum_cons, h2, Option.getD_some]
    omega
/-- None if one is None, else one more than their sum -/
theorem last_ok {i : Nat} {l : List (Option Nat)} {σ : Sl} {S : Sto} (h : eVar i σ S = .ok (.lst (l.map optN)) S) :
    eIf (eTest (eOp (opIn false) (eK .non) (eVar i))) (eK .non) (eOp opAdd (eK (.int 1)) (eCall fSum1 (lCons (eVar i) lNil))) σ S = .ok (.pd (optN (sumO l))) S := by
  rw [eIf_app, eTest_app, eOp_ok (S' := S) (d := .non) rfl h (opIn_opts l S)]
  show (if l.any (·.isNone) = true then _ else _) = _
  unfold sumO
  by_cases hn : l.any (·.isNone) = true
  · rw [if_pos hn, if_pos hn]; rfl
  · rw [if_neg hn, if_neg hn]
    obtain ⟨h1, h2⟩ := sum_opts l (by cases h : l.any (·.isNone) with | true => exact absurd h hn | false => rfl)
    refine eOp_ok (d := .int 1) (S' := S) (e := .int ((l.map fun o => ((o.getD 0 : Nat) : Int)).sum)) (S2 := S) rfl (eCall1_ok h ?_) ?_
    · rw [h1]; exact fSum1_ints _ S
    · rw [h2, opAdd_int]
      show _ = Out.ok (D.pd (.int ((1 + (l.map (·.getD 0)).sum : Nat) : Int))) S
      congr 3
end DL
namespace DL
open PySem PySem.Spec PyProof.Rows L2
theorem mkTupN {ds : List D} {xs : List PyData} (h : ds = xs.map .pd) (hl : xs.length ≤ 1000) (σ : Sl) (S : Sto) : mkTup ds σ S = .ok (.tup xs) S := by
  subst h
  unfold mkTup
  rw [pdL_map]
  dsimp only
  rw [if_pos (by rw [sizeLine_eq]; omega)]
theorem mkLstN {ds : List D} {xs : List PyData} (h : ds = xs.map .pd) (hl : xs.length ≤ 1000) (σ : Sl) (S : Sto) : mkLst ds σ S = .ok (.lst xs) S := by
  subst h
  unfold mkLst
  rw [pdL_map]
  dsimp only
  rw [if_pos (by rw [sizeLine_eq]; omega)]
theorem mkTup1 (x0 : PyData) (σ : Sl) (S : Sto) : mkTup [.pd x0] σ S = .ok (.tup [x0]) S := mkTupN (xs := [x0]) rfl (by simp) σ S
theorem mkLst2 (x0 x1 : PyData) (σ : Sl) (S : Sto) : mkLst [.pd x0, .pd x1] σ S = .ok (.lst [x0, x1]) S := mkLstN (xs := [x0, x1]) rfl (by simp) σ S
theorem mkTup3 (x0 x1 x2 : PyData) (σ : Sl) (S : Sto) : mkTup [.pd x0, .pd x1, .pd x2] σ S = .ok (.tup [x0, x1, x2]) S := mkTupN (xs := [x0, x1, x2]) rfl (by simp) σ S
theorem mkLst3 (x0 x1 x2 : PyData) (σ : Sl) (S : Sto) : mkLst [.pd x0, .pd x1, .pd x2] σ S = .ok (.lst [x0, x1, x2]) S := mkLstN (xs := [x0, x1, x2]) rfl (by simp) σ S
theorem mkTup4 (x0 x1 x2 x3 : PyData) (σ : Sl) (S : Sto) : mkTup [.pd x0, .pd x1, .pd x2, .pd x3] σ S = .ok (.tup [x0, x1, x2, x3]) S := mkTupN (xs := [x0, x1, x2, x3]) rfl (by simp) σ S
theorem mkLst4 (x0 x1 x2 x3 : PyData) (σ : Sl) (S : Sto) : mkLst [.pd x0, .pd x1, .pd x2, .pd x3] σ S = .ok (.lst [x0, x1, x2, x3]) S := mkLstN (xs := [x0, x1, x2, x3]) rfl (by simp) σ S
theorem mkTup5 (x0 x1 x2 x3 x4 : PyData) (σ : Sl) (S : Sto) : mkTup [.pd x0, .pd x1, .pd x2, .pd x3, .pd x4] σ S = .ok (.tup [x0, x1, x2, x3, x4]) S := mkTupN (xs := [x0, x1, x2, x3, x4]) rfl (by simp) σ S
theorem mkLst5 (x0 x1 x2 x3 x4 : PyData) (σ : Sl) (S : Sto) : mkLst [.pd x0, .pd x1, .pd x2, .pd x3, .pd x4] σ S = .ok (.lst [x0, x1, x2, x3, x4]) S := mkLstN (xs := [x0, x1, x2, x3, x4]) rfl (by simp) σ S
theorem mkTup6 (x0 x1 x2 x3 x4 x5 : PyData) (σ : Sl) (S : Sto) : mkTup [.pd x0, .pd x1, .pd x2, .pd x3, .pd x4, .pd x5] σ S = .ok (.tup [x0, x1, x2, x3, x4, x5]) S := mkTupN (xs := [x0, x1, x2, x3, x4, x5]) rfl (by simp) σ S
theorem mkLst6 (x0 x1 x2 x3 x4 x5 : PyData) (σ : Sl) (S : Sto) : mkLst [.pd x0, .pd x1, .pd x2, .pd x3, .pd x4, .pd x5] σ S = .ok (.lst [x0, x1, x2, x3, x4, x5]) S := mkLstN (xs := [x0, x1, x2, x3, x4, x5]) rfl (by simp) σ S
theorem mkTup7 (x0 x1 x2 x3 x4 x5 x6 : PyData) (σ : Sl) (S : Sto) : mkTup [.pd x0, .pd x1, .pd x2, .pd x3, .pd x4, .pd x5, .pd x6] σ S = .ok (.tup [x0, x1, x2, x3, x4, x5, x6]) S := mkTupN (xs := [x0, x1, x2, x3, x4, x5, x6]) rfl (by simp) σ S
theorem mkLst7 (x0 x1 x2 x3 x4 x5 x6 : PyData) (σ : Sl) (S : Sto) : mkLst [.pd x0, .pd x1, .pd x2, .pd x3, .pd x4, .pd x5, .pd x6] σ S = .ok (.lst [x0, x1, x2, x3, x4, x5, x6]) S := mkLstN (xs := [x0, x1, x2, x3, x4, x5, x6]) rfl (by simp) σ S
theorem mkTup8 (x0 x1 x2 x3 x4 x5 x6 x7 : PyData) (σ : Sl) (S : Sto) : mkTup [.pd x0, .pd x1, .pd x2, .pd x3, .pd x4, .pd x5, .pd x6, .pd x7] σ S = .ok (.tup [x0, x1, x2, x3, x4, x5, x6, x7]) S := mkTupN (xs := [x0, x1, x2, x3, x4, x5, x6, x7]) rfl (by simp) σ S
theorem mkLst8 (x0 x1 x2 x3 x4 x5 x6 x7 : PyData) (σ : Sl) (S : Sto) : mkLst [.pd x0, .pd x1, .pd x2, .pd x3, .pd x4, .pd x5, .pd x6, .pd x7] σ S = .ok (.lst [x0, x1, x2, x3, x4, x5, x6, x7]) S := mkLstN (xs := [x0, x1, x2, x3, x4, x5, x6, x7]) rfl (by simp) σ S
theorem mkTup9 (x0 x1 x2 x3 x4 x5 x6 x7 x8 : PyData) (σ : Sl) (S : Sto) : mkTup [.pd x0, .pd x1, .pd x2, .pd x3, .pd x4, .pd x5, .pd x6, .pd x7, .pd x8] σ S = .ok (.tup [x0, x1, x2, x3, x4, x5, x6, x7, x8]) S := mkTupN (xs := [x0, x1, x2, x3, x4, x5, x6, x7, x8]) rfl (by simp) σ S
theorem mkLst9 (x0 x1 x2 x3 x4 x5 x6 x7 x8 : PyData) (σ : Sl) (S : Sto) : mkLst [.pd x0, .pd x1, .pd x2, .pd x3, .pd x4, .pd x5, .pd x6, .pd x7, .pd x8] σ S = .ok (.lst [x0, x1, x2, x3, x4, x5, x6, x7, x8]) S := mkLstN (xs := [x0, x1, x2, x3, x4, x5, x6, x7, x8]) rfl (by simp) σ S
theorem mkTup11 (x0 x1 x2 x3 x4 x5 x6 x7 x8 x9 x10 : PyData) (σ : Sl) (S : Sto) : mkTup [.pd x0, .pd x1, .pd x2, .pd x3, .pd x4, .pd x5, .pd x6, .pd x7, .pd x8, .pd x9, .pd x10] σ S = .ok (.tup [x0, x1, x2, x3, x4, x5, x6, x7, x8, x9, x10]) S := mkTupN (xs := [x0, x1, x2, x3, x4, x5, x6, x7, x8, x9, x10]) rfl (by simp) σ S
theorem mkLst11 (x0 x1 x2 x3 x4 x5 x6 x7 x8 x9 x10 : PyData) (σ : Sl) (S : Sto) : mkLst [.pd x0, .pd x1, .pd x2, .pd x3, .pd x4, .pd x5, .pd x6, .pd x7, .pd x8, .pd x9, .pd x10] σ S = .ok (.lst [x0, x1, x2, x3, x4, x5, x6, x7, x8, x9, x10]) S := mkLstN (xs := [x0, x1, x2, x3, x4, x5, x6, x7, x8, x9, x10]) rfl (by simp) σ S
theorem fAny_lst (bs : List Bool) (S : Sto) : fAny [.lst (bs.map .bool)] S = .ok (.bl (bs.any fun b => b)) S := by
  show (match blsOf S (.lst (bs.map .bool)) with | some bs => Out.ok (D.bl (bs.any fun b => b)) S | none => .stuck) = _
  have : blsOf S (.lst (bs.map .bool)) = some bs := by
    unfold blsOf asL
    dsimp only
    rw [pdL_map]
    exact blsL_map bs
  rw [this]
theorem fAny_map {α : Type} (l : List α) (P : α → Bool) (S : Sto) : fAny [.lst (l.map fun a => .bool (P a))] S = .ok (.bl (l.any P)) S := by
  have := fAny_lst (l.map P) S
  rw [List.map_map] at this
  rw [show (fun a => PyData.bool (P a)) = (PyData.bool ∘ P) from rfl, this, List.any_map]
  rfl
end DL
namespace DL
open PySem PySem.Spec PyProof.Rows L2
theorem eOr_f {m n : DM D} {σ : Sl} {S S' : Sto} (h : m σ S = .ok (.bl false) S') : eOr m n σ S = n σ S' := by rw [eOr_app, h]; rfl
theorem eOr_t {m n : DM D} {σ : Sl} {S S' : Sto} (h : m σ S = .ok (.bl true) S') : eOr m n σ S = .ok (.bl true) S' := by rw [eOr_app, h]; rfl
theorem eAnd_f {m n : DM D} {σ : Sl} {S S' : Sto} (h : m σ S = .ok (.bl false) S') : eAnd m n σ S = .ok (.bl false) S' := by rw [eAnd_app, h]; rfl
theorem eAnd_t {m n : DM D} {σ : Sl} {S S' : Sto} (h : m σ S = .ok (.bl true) S') : eAnd m n σ S = n σ S' := by rw [eAnd_app, h]; rfl
theorem bOr_f {m n : DM Bool} {σ : Sl} {S S' : Sto} (h : m σ S = .ok false S') : bOr m n σ S = n σ S' := by rw [bOr_app, h]; rfl
theorem bOr_t {m n : DM Bool} {σ : Sl} {S S' : Sto} (h : m σ S = .ok true S') : bOr m n σ S = .ok true S' := by rw [bOr_app, h]; rfl
theorem bNot_ok {m : DM Bool} {k : Bool} {σ : Sl} {S S' : Sto} (h : m σ S = .ok k S') : bNot m σ S = .ok (!k) S' := by rw [bNot_app, h]; rfl
theorem eTru_bl {m : DM D} {k : Bool} {σ : Sl} {S S' : Sto} (h : m σ S = .ok (.bl k) S') : eTru m σ S = .ok k S' := by rw [eTru_app, h]; rfl
theorem eTest_bl {m : DM D} {k : Bool} {σ : Sl} {S S' : Sto} (h : m σ S = .ok (.bl k) S') : eTest m σ S = .ok k S' := by rw [eTest_app, h]; rfl
end DL
namespace DL
open PySem PySem.Spec PyProof.Rows L2
theorem enumIt_range : ∀ (k : Nat) (xs : List PyData), enumIt k xs = (List.range xs.length).map fun i => D.tup [.int ((k + i : Nat) : Int), xs.getD i .none]
  | _, [] => rfl
  | k, x :: xs => by
    rw [enumIt, enumIt_range (k + 1) xs, List.length_cons, List.range_succ_eq_map, List.map_cons, List.map_map]
    congr 1
    refine List.map_congr_left fun i _ => ?_
    show D.tup [.int ((k + 1 + i : Nat) : Int), xs.getD i .none] = D.tup [.int ((k + (i + 1) : Nat) : Int), (x :: xs).getD (i + 1) .none]
    rw [show k + 1 + i = k + (i + 1) by omega]
    rfl
theorem okEq_ones {α : Type} (l : List α) : okEq (.list (l.map fun _ => .int 1)) = true := by
  have h1 : PyData.canLayAll0 (l.map fun _ => PyData.int 1) = true ∧ PyData.depthAll (l.map fun _ => PyData.int 1) = 0 := by
    induction l with
    | nil => exact ⟨rfl, rfl⟩
    | cons a r ih =>
      obtain ⟨i1, i2⟩ := ih
      simp only [List.map_cons, PyData.canLayAll0, PyData.depthAll, i1, i2, PyData.canLay0, PyData.depth]
      exact ⟨rfl, rfl⟩
  unfold okEq SeqAt.shaped
  simp [PyData.canLay0, PyData.depth, h1.1, h1.2]
theorem ones_ne {α : Type} (l : List α) (S : Sto) : opEq true (.pd (.list (l.map fun _ => .int 1))) (.pd (.list [])) S = .ok (.bl (!l.isEmpty)) S := by
  refine (opEq_ex true (okEq_ones l) (y := .list []) (okEq_ones ([] : List Nat)) S).trans ?_
  cases l <;> rfl
theorem fMax1_ints (ns : List Int) (h : ns ≠ []) (S : Sto) : fMax1 [.lst (ns.map .int)] S = .ok (.int (mostI ns)) S := by
  unfold fMax1 intsOf asL
  dsimp only
  rw [pdL_map]
  dsimp only
  rw [intsL_map]
  dsimp only
  rw [if_pos h]
theorem cut1 {α : Type} (xs : List α) : cut xs (some 1) none = xs.drop 1 := by
  cases xs with
  | nil => simp [cut]
  | cons x r =>
    simp [cut, HT.sIx]
end DL
end
section
namespace DL
open PySem PySem.Spec PyProof.Rows L2
theorem opAdd_tup {xs ys : List PyData} (h : xs.length + ys.length ≤ 10000) (S : Sto) : opAdd (.tup xs) (.tup ys) S = .ok (.tup (xs ++ ys)) S := by
  show (if xs.length + ys.length ≤ sizeLine then Out.ok (D.tup (xs ++ ys)) S else .stuck) = _
  rw [if_pos (by rw [sizeLine_eq]; omega)]
theorem opAdd_lst {xs ys : List PyData} (h : xs.length + ys.length ≤ 10000) (S : Sto) : opAdd (.lst xs) (.lst ys) S = .ok (.lst (xs ++ ys)) S := by
  show (match asL S (.lst xs), asL S (.lst ys) with
    | some xs, some ys => (match pdL (xs ++ ys) with
      | some zs => if zs.length ≤ sizeLine then Out.ok (D.lst zs) S else .stuck
      | none => .stuck)
    | _, _ => .stuck) = _
  unfold asL
  dsimp only
  rw [← List.map_append, pdL_map]
  dsimp only
  rw [if_pos (by rw [sizeLine_eq, List.length_append]; omega)]
theorem flat_rep (x : PyData) : ∀ k : Nat, (List.replicate k [x]).flatten = List.replicate k x
  | 0 => rfl
  | k + 1 => by rw [List.replicate_succ, List.replicate_succ, List.flatten_cons, flat_rep x k]; rfl
theorem opMul_tup1 (x : PyData) {k : Nat} (h2 : 2 ≤ k) (h : k ≤ 1000) (S : Sto) : opMul2 (.tup [x]) (.int k) S = .ok (.tup (List.replicate k x)) S := by
  have e : opMul2 (.tup [x]) (.int k) S = if -(2 ^ 63) ≤ (k : Int) ∧ (k : Int) < 2 ^ 63 then (if [x] = [] ∨ (k : Int) = 1 then .ok (.tup [x]) S else if (k : Int) ≤ 0 then .ok (.tup []) S else opMul (.tup [x]) (.int k) S) else .stuck := rfl
  rw [e, if_pos ⟨by omega, by omega⟩, if_neg (by simp; omega), if_neg (by omega)]
  show (if [x] ≠ [] ∧ 2 ≤ (k : Int) ∧ (k : Int) ≤ 1000 ∧ [x].length ≤ 1000 then Out.ok (D.tup (List.replicate (k : Int).toNat [x]).flatten) S else .stuck) = _
  rw [if_pos ⟨by simp, by omega, by omega, by simp⟩, Int.toNat_natCast]
  rw [flat_rep]
theorem opMul_lst1 (x : PyData) {k : Nat} (h : k ≤ 1000) (S : Sto) : opMul2 (.lst [x]) (.int k) S = .ok (.lst (List.replicate k x)) S := by
  have e : opMul2 (.lst [x]) (.int k) S = if -(2 ^ 63) ≤ (k : Int) ∧ (k : Int) < 2 ^ 63 ∧ [x].length * (k : Int).toNat ≤ sizeLine then .ok (.lst (List.replicate (k : Int).toNat [x]).flatten) S else .stuck := rfl
  rw [e, if_pos ⟨by omega, by omega, by rw [sizeLine_eq]; simp; omega⟩, Int.toNat_natCast]
  rw [flat_rep]
theorem cut_take {α : Type} (xs : List α) (k : Nat) : cut xs none (some (k : Int)) = xs.take k := by
  unfold cut
  rw [HT.sIx_none, HT.sIx_nat, List.drop_zero, Nat.sub_zero]
  by_cases h : k ≤ xs.length
  · rw [Nat.min_eq_left h]
  · rw [Nat.min_eq_right (by omega), List.take_length, List.take_of_length_le (by omega)]
theorem cut_drop {α : Type} (xs : List α) (k : Nat) : cut xs (some (k : Int)) none = xs.drop k := by
  unfold cut
  rw [HT.sIx_none, HT.sIx_nat]
  by_cases h : k ≤ xs.length
  · rw [Nat.min_eq_left h, List.take_of_length_le (by rw [List.length_drop]; exact Nat.le_refl _)]
  · rw [Nat.min_eq_right (by omega), List.drop_length, List.take_nil, List.drop_of_length_le (by omega)]
theorem slD_take (xs : List PyData) (k : Nat) (S : Sto) : slD S (.tup xs) none (some (k : Int)) = .ok (.tup (xs.take k)) S := by
  show Out.ok (D.tup (cut xs none (some (k : Int)))) S = _
  rw [cut_take]
theorem slD_drop (xs : List PyData) (k : Nat) (S : Sto) : slD S (.tup xs) (some (k : Int)) none = .ok (.tup (xs.drop k)) S := by
  show Out.ok (D.tup (cut xs (some (k : Int)) none)) S = _
  rw [cut_drop]
theorem fList_tup (xs : List PyData) (S : Sto) : fList [.tup xs] S = .ok (.lst xs) S := by
  simp [fList, asQ]
theorem opMul_tupK (x : PyData) {k : Nat} (h : k ≤ 1000) (S : Sto) : opMul2 (.tup [x]) (.int k) S = .ok (.tup (List.replicate k x)) S := by
  by_cases h2 : 2 ≤ k
  · exact opMul_tup1 x h2 h S
  · have e : opMul2 (.tup [x]) (.int k) S = if -(2 ^ 63) ≤ (k : Int) ∧ (k : Int) < 2 ^ 63 then (if [x] = [] ∨ (k : Int) = 1 then .ok (.tup [x]) S else if (k : Int) ≤ 0 then .ok (.tup []) S else opMul (.tup [x]) (.int k) S) else .stuck := rfl
    rw [e, if_pos ⟨by omega, by omega⟩]
    by_cases h1 : k = 1
    · subst h1
      rw [if_pos (.inr rfl)]; rfl
    · have h0 : k = 0 := by omega
      subst h0
      rw [if_neg (by simp), if_pos (by omega)]; rfl
theorem eLst1_ok {m : DM D} {x : PyData} {σ : Sl} {S S' : Sto} (h : m σ S = .ok (.pd x) S') : eLst (lCons m lNil) σ S = .ok (.lst [x]) S' := by
  rw [eLst_app, lCons_app, h]
  exact mkLst1 x σ S'
theorem call4_ok {n : Nat} {f : DF} {m m2 m3 m4 : DM D} {d e e3 e4 d' : D} {σ : Sl} {S S' S2 S3 S4 S5 : Sto} (h : m σ S = .ok d S') (h2 : m2 σ S' = .ok e S2) (h3 : m3 σ S2 = .ok e3 S3) (h4 : m4 σ S3 = .ok e4 S4) (hf : callF n f [d, e, e3, e4] σ S4 = .ok d' S5) : mBind (lCons m (lCons m2 (lCons m3 (lCons m4 lNil)))) (callF n f) σ S = .ok d' S5 := by
  rw [mBind_app, lCons_app, h, Out.bind_ok, lCons_app, h2, Out.bind_ok, lCons_app, h3, Out.bind_ok, lCons_app, h4]
  exact hf
theorem call5_ok {n : Nat} {f : DF} {m m2 m3 m4 m5 : DM D} {d e e3 e4 e5 d' : D} {σ : Sl} {S S' S2 S3 S4 S5 S6 : Sto} (h : m σ S = .ok d S') (h2 : m2 σ S' = .ok e S2) (h3 : m3 σ S2 = .ok e3 S3) (h4 : m4 σ S3 = .ok e4 S4) (h5 : m5 σ S4 = .ok e5 S5) (hf : callF n f [d, e, e3, e4, e5] σ S5 = .ok d' S6) : mBind (lCons m (lCons m2 (lCons m3 (lCons m4 (lCons m5 lNil))))) (callF n f) σ S = .ok d' S6 := by
  rw [mBind_app, lCons_app, h, Out.bind_ok, lCons_app, h2, Out.bind_ok, lCons_app, h3, Out.bind_ok, lCons_app, h4, Out.bind_ok, lCons_app, h5]
  exact hf
theorem eTup2_ok {m0 m1 : DM D} {x0 x1 : PyData} {σ : Sl} {S0 S1 S2 : Sto} (h0 : m0 σ S0 = .ok (.pd x0) S1) (h1 : m1 σ S1 = .ok (.pd x1) S2) : eTup (lCons m0 (lCons m1 lNil)) σ S0 = .ok (.tup [x0, x1]) S2 := by
  rw [eTup_app, lCons_app, h0, Out.bind_ok, lCons_app, h1, Out.bind_ok, lNil_app, Out.bind_ok, Out.bind_ok, Out.bind_ok]
  exact mkTup2 _ _ σ S2
theorem eLst2_ok {m0 m1 : DM D} {x0 x1 : PyData} {σ : Sl} {S0 S1 S2 : Sto} (h0 : m0 σ S0 = .ok (.pd x0) S1) (h1 : m1 σ S1 = .ok (.pd x1) S2) : eLst (lCons m0 (lCons m1 lNil)) σ S0 = .ok (.lst [x0, x1]) S2 := by
  rw [eLst_app, lCons_app, h0, Out.bind_ok, lCons_app, h1, Out.bind_ok, lNil_app, Out.bind_ok, Out.bind_ok, Out.bind_ok]
  exact mkLst2 _ _ σ S2
theorem eTup3_ok {m0 m1 m2 : DM D} {x0 x1 x2 : PyData} {σ : Sl} {S0 S1 S2 S3 : Sto} (h0 : m0 σ S0 = .ok (.pd x0) S1) (h1 : m1 σ S1 = .ok (.pd x1) S2) (h2 : m2 σ S2 = .ok (.pd x2) S3) : eTup (lCons m0 (lCons m1 (lCons m2 lNil))) σ S0 = .ok (.tup [x0, x1, x2]) S3 := by
  rw [eTup_app, lCons_app, h0, Out.bind_ok, lCons_app, h1, Out.bind_ok, lCons_app, h2, Out.bind_ok, lNil_app, Out.bind_ok, Out.bind_ok, Out.bind_ok, Out.bind_ok]
  exact mkTup3 _ _ _ σ S3
theorem eLst3_ok {m0 m1 m2 : DM D} {x0 x1 x2 : PyData} {σ : Sl} {S0 S1 S2 S3 : Sto} (h0 : m0 σ S0 = .ok (.pd x0) S1) (h1 : m1 σ S1 = .ok (.pd x1) S2) (h2 : m2 σ S2 = .ok (.pd x2) S3) : eLst (lCons m0 (lCons m1 (lCons m2 lNil))) σ S0 = .ok (.lst [x0, x1, x2]) S3 := by
  rw [eLst_app, lCons_app, h0, Out.bind_ok, lCons_app, h1, Out.bind_ok, lCons_app, h2, Out.bind_ok, lNil_app, Out.bind_ok, Out.bind_ok, Out.bind_ok, Out.bind_ok]
  exact mkLst3 _ _ _ σ S3
theorem eTup4_ok {m0 m1 m2 m3 : DM D} {x0 x1 x2 x3 : PyData} {σ : Sl} {S0 S1 S2 S3 S4 : Sto} (h0 : m0 σ S0 = .ok (.pd x0) S1) (h1 : m1 σ S1 = .ok (.pd x1) S2) (h2 : m2 σ S2 = .ok (.pd x2) S3) (h3 : m3 σ S3 = .ok (.pd x3) S4) : eTup (lCons m0 (lCons m1 (lCons m2 (lCons m3 lNil)))) σ S0 = .ok (.tup [x0, x1, x2, x3]) S4 := by
  rw [eTup_app, lCons_app, h0, Out.bind_ok, lCons_app, h1, Out.bind_ok, lCons_app, h2, Out.bind_ok, lCons_app, h3, Out.bind_ok, lNil_app, Out.bind_ok, Out.bind_ok, Out.bind_ok, Out.bind_ok, Out.bind_ok]
  exact mkTup4 _ _ _ _ σ S4
theorem eLst4_ok {m0 m1 m2 m3 : DM D} {x0 x1 x2 x3 : PyData} {σ : Sl} {S0 S1 S2 S3 S4 : Sto} (h0 : m0 σ S0 = .ok (.pd x0) S1) (h1 : m1 σ S1 = .ok (.pd x1) S2) (h2 : m2 σ S2 = .ok (.pd x2) S3) (h3 : m3 σ S3 = .ok (.pd x3) S4) : eLst (lCons m0 (lCons m1 (lCons m2 (lCons m3 lNil)))) σ S0 = .ok (.lst [x0, x1, x2, x3]) S4 := by
  rw [eLst_app, lCons_app, h0, Out.bind_ok, lCons_app, h1, Out.bind_ok, lCons_app, h2, Out.bind_ok, lCons_app, h3, Out.bind_ok, lNil_app, Out.bind_ok, Out.bind_ok, Out.bind_ok, Out.bind_ok, Out.bind_ok]
  exact mkLst4 _ _ _ _ σ S4
end DL
end
section
namespace DL
open PySem PySem.Spec PyProof.Rows L2
/-! ### rows of whole numbers from 0 on -/
abbrev nt (i : Nat) : PyData := .int i
theorem eqv_nt (a b : Nat) : PyData.eqv (nt a) (nt b) = decide (a = b) := by
  by_cases h : a = b
  · subst h; simp [PyData.eqv]
  · have : ¬ ((a : Int) = (b : Int)) := by omega
    simp [PyData.eqv, h, this]
theorem eqvAll_nts : ∀ l m : List Nat, PyData.eqvAll (l.map nt) (m.map nt) = decide (l = m)
  | [], [] => rfl
  | [], _ :: _ => by simp [PyData.eqvAll]
  | _ :: _, [] => by simp [PyData.eqvAll]
  | a :: l, b :: m => by
    rw [List.map_cons, List.map_cons, PyData.eqvAll, eqv_nt, eqvAll_nts l m]
    by_cases h1 : a = b <;> by_cases h2 : l = m <;> simp [h1, h2]
theorem flat_nts (l : List Nat) : PyData.canLayAll0 (l.map nt) = true ∧ PyData.depthAll (l.map nt) = 0 ∧ PyData.hasDictAll (l.map nt) = false := by
  induction l with
  | nil => exact ⟨rfl, rfl, rfl⟩
  | cons x r ih => exact ⟨by rw [List.map_cons, PyData.canLayAll0, ih.1]; rfl, by rw [List.map_cons, PyData.depthAll, ih.2.1]; rfl, by rw [List.map_cons, PyData.hasDictAll, ih.2.2]; rfl⟩
theorem okEq_ntsL (l : List Nat) : okEq (.list (l.map nt)) = true := by
  obtain ⟨h1, h2, _⟩ := flat_nts l
  unfold okEq SeqAt.shaped
  simp [PyData.canLay0, PyData.depth, h1, h2]
theorem okEq_ntsT (l : List Nat) : okEq (.tuple (l.map nt)) = true := by
  obtain ⟨h1, h2, _⟩ := flat_nts l
  unfold okEq SeqAt.shaped
  simp [PyData.canLay0, PyData.depth, h1, h2]
theorem opEq_ntsL (ne : Bool) (l m : List Nat) (S : Sto) : opEq ne (.lst (l.map nt)) (.lst (m.map nt)) S = .ok (.bl (decide (l = m) ^^ ne)) S := by
  rw [opEq_ex ne (okEq_ntsL l) (okEq_ntsL m), show PyData.eqv (.list (l.map nt)) (.list (m.map nt)) = PyData.eqvAll (l.map nt) (m.map nt) by simp only [PyData.eqv], eqvAll_nts]
theorem opEq_ntsT (ne : Bool) (l m : List Nat) (S : Sto) : opEq ne (.tup (l.map nt)) (.tup (m.map nt)) S = .ok (.bl (decide (l = m) ^^ ne)) S := by
  rw [opEq_ex ne (okEq_ntsT l) (okEq_ntsT m), show PyData.eqv (.tuple (l.map nt)) (.tuple (m.map nt)) = PyData.eqvAll (l.map nt) (m.map nt) by simp only [PyData.eqv], eqvAll_nts]
theorem opIn_nts (ne : Bool) (k : Nat) (l : List Nat) (S : Sto) : opIn ne (.int k) (.tup (l.map nt)) S = .ok (.bl (decide (k ∈ l) ^^ ne)) S := by
  show (if okEq (.int (k : Int)) && okEq (.tuple (l.map nt)) then Out.ok (D.bl (((l.map nt).any fun z => PyData.eqv z (.int (k : Int))) ^^ ne)) S else .stuck) = _
  rw [okEq_int, okEq_ntsT]
  have : ((l.map nt).any fun z => PyData.eqv z (.int (k : Int))) = decide (k ∈ l) := by
    induction l with
    | nil => rfl
    | cons a l ih =>
      rw [List.map_cons, List.any_cons, ih, eqv_nt]
      by_cases h1 : a = k
      · subst h1; simp
      · have h3 : ¬ k = a := fun h => h1 h.symm
        by_cases h2 : k ∈ l <;> simp [h1, h2, h3]
  rw [this]
  rfl
theorem sortD_nts (l : List Nat) (h : l.Pairwise (· ≤ ·)) : sortD (l.map nt) = l.map nt := by
  unfold sortD
  refine List.mergeSort_of_pairwise ?_
  have e := PySem.W.dataLe_int (β := Nat) (fun i => (i : Int))
  rw [List.pairwise_map]
  refine h.imp fun {a b} hab => ?_
  have := congrFun (congrFun e a) b
  refine (show PySem.W.dataLe false id (nt a) (nt b) = PySem.W.dataLe false (fun (b : Nat) => PyData.int (b : Int)) a b from rfl).trans (this.trans ?_)
  exact decide_eq_true (by omega)
theorem sortOk_nts (l : List Nat) : sortOk (l.map nt) := by
  refine ⟨(flat_nts l).2.2, PySem.W.AllAlike.of fun b b' => rfl, PySem.W.Sortable.others fun b => ⟨fun h => (nomatch h), fun xs h => (nomatch h)⟩, fun d hd => ?_⟩
  obtain ⟨p, _, rfl⟩ := List.mem_map.mp hd
  simp [PyData.depth]
theorem fSorted_nts (l : List Nat) (h : l.Pairwise (· ≤ ·)) (S : Sto) : fSorted [.tup (l.map nt)] S = .ok (.lst (l.map nt)) S := by
  have e : asQ S (.tup (l.map nt)) = some ((l.map nt).map D.pd) := rfl
  unfold fSorted
  simp only [e, pdL_map, sortOk_nts, if_true, sortD_nts l h]
theorem intsL_nts (l : List Nat) : intsL (l.map nt) = some (l.map fun (x : Nat) => (x : Int)) := by
  induction l with
  | nil => rfl
  | cons x r ih => rw [List.map_cons, intsL, ih]; rfl
theorem fMax1Q_nts {l : List Nat} {a : Nat} {m : Int} (h : mostI ((a : Int) :: l.map fun (x : Nat) => (x : Int)) = m) (S : Sto) : fMax1Q [.tup ((a :: l).map nt)] S = .ok (.int m) S := by
  show (match intsL ((a :: l).map nt) with
    | some (n :: ns) => Out.ok (D.int (mostI (n :: ns))) S
    | _ => .stuck) = _
  rw [intsL_nts, List.map_cons]
  dsimp only
  rw [h]
end DL
end
section
namespace DL
open PySem PySem.Spec PyProof.Rows L2
/-! ### what terms come to -/
def opv (x : Str) (a b : Nat) : Nat :=
  if x = "plus" then (a + b) % 997 else if x = "minus" then (a + 997 - b) % 997 else if x = "times" then a * b % 997 else
  if x = "over" then (if b = 0 then 0 else a / b) else if x = "rest" then (if b = 0 then 0 else a % b) else
  if x = "less" then (if a < b then 1 else 0) else if x = "same" then (if a = b then 1 else 0) else if x = "low" then min a b else max a b
theorem opv_lt {x : Str} {a b : Nat} (ha : a < 997) (hb : b < 997) : opv x a b < 997 := by
  unfold opv
  repeat' split
  all_goals first
    | omega
    | exact Nat.mod_lt _ (by omega)
    | exact Nat.lt_of_le_of_lt (Nat.div_le_self _ _) ha
    | exact Nat.lt_trans (Nat.mod_lt _ (by omega)) hb
def lstV (f : Nat → Nat → Nat) : List Nat → Nat
  | [] => 0
  | n :: ns => ns.foldl f n
def lfv (x : Str) (w : Nat) (hp : List Nat) : Nat :=
  if x = "ties" then hp.length else if x = "sum" then hp.sum % 997 else if x = "least" then lstV min hp else if x = "most" then lstV max hp else w
theorem foldl_lt {f : Nat → Nat → Nat} (hf : ∀ a b, a < 997 → b < 997 → f a b < 997) : ∀ (l : List Nat) (n : Nat), n < 997 → (∀ x ∈ l, x < 997) → l.foldl f n < 997
  | [], n, h, _ => h
  | x :: l, n, h, hl => foldl_lt hf l (f n x) (hf n x h (hl x (by simp))) fun y hy => hl y (by simp [hy])
theorem lstV_lt {f : Nat → Nat → Nat} (hf : ∀ a b, a < 997 → b < 997 → f a b < 997) : ∀ l : List Nat, (∀ x ∈ l, x < 997) → lstV f l < 997
  | [], _ => by show 0 < 997; omega
  | n :: ns, h => foldl_lt hf ns n (h n (by simp)) fun y hy => h y (by simp [hy])
/-- a worth, a heap -/
structure GH (w : Nat) (hp : List Nat) : Prop where
  wl : w < 997
  all : ∀ x ∈ hp, x < 997
  len : hp.length ≤ 11
theorem lfv_lt {x : Str} {w : Nat} {hp : List Nat} (h : GH w hp) : lfv x w hp < 997 := by
  have h1 := h.wl
  have h2 := h.len
  unfold lfv
  repeat' split
  · omega
  · exact Nat.mod_lt _ (by omega)
  · exact lstV_lt (fun a b ha hb => by omega) hp h.all
  · exact lstV_lt (fun a b ha hb => by omega) hp h.all
  · omega
def Trm.val (w : Nat) (hp : List Nat) : Trm → Nat
  | .num i => i
  | .leaf x => lfv x w hp
  | .many k => hp.count k
  | .op x a b => opv x (Trm.val w hp a) (Trm.val w hp b)
  | .cond c a b => if Trm.val w hp c = 0 then Trm.val w hp b else Trm.val w hp a
theorem val_lt {w : Nat} {hp : List Nat} (h : GH w hp) : ∀ t : Trm, t.Wf → t.val w hp < 997
  | .num i, hi => hi
  | .leaf x, _ => lfv_lt h
  | .many k, _ => by
    show hp.count k < 997
    have := List.count_le_length (a := k) (l := hp)
    have := h.len
    omega
  | .op x a b, ⟨_, ha, hb⟩ => opv_lt (val_lt h a ha) (val_lt h b hb)
  | .cond c a b, ⟨_, ha, hb⟩ => by
    show (if Trm.val w hp c = 0 then Trm.val w hp b else Trm.val w hp a) < 997
    split
    · exact val_lt h b hb
    · exact val_lt h a ha
/-- what does not look hangs on how many there are alone -/
theorem val_len {w : Nat} {hp hq : List Nat} (hl : hp.length = hq.length) : ∀ t : Trm, t.Wf → t.looks = false → t.val w hp = t.val w hq
  | .num i, _, _ => rfl
  | .leaf x, _, hk => by
    have hk : decide (x ∈ (["sum", "least", "most"] : List Str)) = false := hk
    have hk := of_decide_eq_false hk
    simp only [List.mem_cons, List.not_mem_nil, or_false, not_or] at hk
    show lfv x w hp = lfv x w hq
    unfold lfv
    rw [if_neg hk.1, if_neg hk.2.1, if_neg hk.2.2, if_neg hk.1, if_neg hk.2.1, if_neg hk.2.2, hl]
  | .many k, _, hk => absurd hk (by show ¬ (true = false); decide)
  | .op x a b, ⟨_, ha, hb⟩, hk => by
    have hk : (a.looks || b.looks) = false := hk
    rw [Bool.or_eq_false_iff] at hk
    show opv x (Trm.val w hp a) (Trm.val w hp b) = opv x (Trm.val w hq a) (Trm.val w hq b)
    rw [val_len hl a ha hk.1, val_len hl b hb hk.2]
  | .cond c a b, ⟨hc, ha, hb⟩, hk => by
    have hk : (c.looks || (a.looks || b.looks)) = false := hk
    rw [Bool.or_eq_false_iff, Bool.or_eq_false_iff] at hk
    show (if Trm.val w hp c = 0 then Trm.val w hp b else Trm.val w hp a) = (if Trm.val w hq c = 0 then Trm.val w hq b else Trm.val w hq a)
    rw [val_len hl c hc hk.1, val_len hl a ha hk.2.1, val_len hl b hb hk.2.2]
/-! ### the readings on a heap -/
section
variable {S : Sto} {σ : Sl}
theorem intsL_nt (l : List Nat) : intsL (l.map nt) = some (l.map fun (x : Nat) => (x : Int)) := intsL_nts l
theorem count_cast (k : Nat) : ∀ l : List Nat, (l.map fun (x : Nat) => (x : Int)).count (k : Int) = l.count k
  | [] => rfl
  | x :: l => by
    rw [List.map_cons, List.count_cons, List.count_cons, count_cast k l]
    congr 1
    have : ((x : Int) == (k : Int)) = (x == k) := by
      by_cases h : x = k
      · subst h; simp
      · have : ¬ ((x : Int) = (k : Int)) := by omega
        rw [beq_eq_false_iff_ne.mpr this, beq_eq_false_iff_ne.mpr h]
    rw [this]
theorem opCnt_nts (l : List Nat) (k : Nat) : opCnt (l.map nt) [.int k] S = .ok (.int (l.count k : Nat)) S := by
  show (match intsL (l.map nt) with
    | some ns => Out.ok (D.int (ns.count (k : Int) : Nat)) S
    | none => .stuck) = _
  rw [intsL_nt]
  dsimp only
  rw [count_cast]
theorem sum_cast : ∀ l : List Nat, (l.map fun (x : Nat) => (x : Int)).sum = ((l.sum : Nat) : Int)
  | [] => rfl
  | x :: l => by rw [List.map_cons, List.sum_cons, List.sum_cons, sum_cast l]; omega
theorem fSum1Q_nts (l : List Nat) : fSum1Q [.tup (l.map nt)] S = .ok (.int (l.sum : Nat)) S := by
  show (match intsL (l.map nt) with
    | some ns => Out.ok (D.int ns.sum) S
    | none => .stuck) = _
  rw [intsL_nt]
  dsimp only
  rw [sum_cast]
theorem foldl_cast {f : Int → Int → Int} {g : Nat → Nat → Nat} (h : ∀ a b : Nat, f a b = (g a b : Nat)) : ∀ (l : List Nat) (n : Nat), (l.map fun (x : Nat) => (x : Int)).foldl f (n : Int) = ((l.foldl g n : Nat) : Int)
  | [], _ => rfl
  | x :: l, n => by rw [List.map_cons, List.foldl_cons, List.foldl_cons, h, foldl_cast h l]
theorem fMinDf_nts (l : List Nat) : fMinDf [.tup (l.map nt)] [.int 0] S = .ok (.int (lstV min l : Nat)) S := by
  show (match intsL (l.map nt) with
      | some [] => Out.ok (D.int 0) S
      | some (n :: ns) => .ok (.int (ns.foldl min n)) S
      | none => .stuck) = _
  rw [intsL_nt]
  cases l with
  | nil => rfl
  | cons n ns =>
    rw [List.map_cons]
    dsimp only
    rw [foldl_cast (g := min) (fun a b => by omega) ns n]
    rfl
theorem fMaxDf_nts (l : List Nat) : fMaxDf [.tup (l.map nt)] [.int 0] S = .ok (.int (lstV max l : Nat)) S := by
  show (match intsL (l.map nt) with
      | some [] => Out.ok (D.int 0) S
      | some (n :: ns) => .ok (.int (ns.foldl max n)) S
      | none => .stuck) = _
  rw [intsL_nt]
  cases l with
  | nil => rfl
  | cons n ns =>
    rw [List.map_cons]
    dsimp only
    rw [foldl_cast (g := max) (fun a b => by omega) ns n]
    rfl
theorem eCallK_ok {f : List D → List D → Sto → Out D} {m k : DM D} {d e d' : D} {S' S2 S3 : Sto} (h : m σ S = .ok d S') (h2 : k σ S' = .ok e S2) (hf : f [d] [e] S2 = .ok d' S3) : eCallK f (lCons m lNil) (lCons k lNil) σ S = .ok d' S3 := by
  unfold eCallK
  rw [mBind_app, lCons_app, h, Out.bind_ok, lNil_app, Out.bind_ok, Out.bind_ok, mBind_app, lCons_app, h2, Out.bind_ok, lNil_app, Out.bind_ok, Out.bind_ok]
  exact hf
theorem eCntX_ok {mo m : DM D} {xs : List PyData} {d d' : D} {S' S2 S3 : Sto} (h : mo σ S = .ok (.xt xs) S') (h2 : m σ S' = .ok d S2) (hf : opCnt xs [d] S2 = .ok d' S3) : eCntX mo (lCons m lNil) σ S = .ok d' S3 := by
  unfold eCntX
  rw [mBind_app, h, Out.bind_ok]
  dsimp only
  rw [mBind_app, lCons_app, h2, Out.bind_ok, lNil_app, Out.bind_ok, Out.bind_ok]
  exact hf
theorem eVarW_xt {i : Nat} {xs : List PyData} (h : σ[i]? = some (some (.xt xs))) : eVarW i σ S = .ok (.tup xs) S := by
  unfold eVarW
  rw [h]
  rfl
theorem fTupleX_lst (xs : List PyData) : fTupleX [.lst xs] S = .ok (.xt xs) S := by
  unfold fTupleX asL
  simp only [pdL_map]
theorem eTabCall2_ok {tab : List (Str × DF)} {mk m m2 : DM D} {x : Str} {f : DF} {d e d' : D} {S' S2 S3 S4 : Sto} (hk : mk σ S = .ok (.str x) S') (ht : tabGet tab x = some f) (h : m σ S' = .ok d S2) (h2 : m2 σ S2 = .ok e S3) (hf : callF 2 f [d, e] σ S3 = .ok d' S4) :
    eTabCall 2 tab mk (lCons m (lCons m2 lNil)) σ S = .ok d' S4 := by
  unfold eTabCall
  rw [mBind_app, hk, Out.bind_ok]
  have : tabFn tab (.str x) = some f := ht
  rw [this]
  exact call2_ok h h2 hf
end
end DL
end
section
namespace DL
open PySem PySem.Spec PyProof.Rows L2
/-! ### texts that can be compared -/
theorem strOk_of (s : String) : PyData.strOk (Str.ofString s) = true := by
  rw [Str.ofString_eq_toList]
  unfold PyData.strOk
  simp only [List.all_toArray, List.all_map, List.all_eq_true]
  intro c _
  have := c.valid
  simp only [Function.comp, decide_eq_true_eq]
  unfold UInt32.isValidChar Nat.isValidChar at this
  show c.val.toNat < _
  omega
theorem strOk_app (x y : Str) : PyData.strOk (x ++ y) = (PyData.strOk x && PyData.strOk y) := by
  show PyData.strOk ⟨x.cps ++ y.cps⟩ = _
  unfold PyData.strOk
  simp
theorem strOk_join : ∀ ts : List Str, (∀ t ∈ ts, PyData.strOk t = true) → PyData.strOk (Str.join ", " ts) = true
  | [], _ => strOk_of ""
  | [x], h => by
    show PyData.strOk x = true
    exact h x List.mem_cons_self
  | x :: y :: r, h => by
    have ih := strOk_join (y :: r) fun t ht => h t (List.mem_cons_of_mem _ ht)
    show PyData.strOk (x ++ Str.ofString ", " ++ Str.join ", " (y :: r)) = true
    rw [strOk_app, strOk_app, h x List.mem_cons_self, strOk_of, ih]
    rfl
theorem strOk_from : ∀ (ts : List Str) (k : Nat) (acc : Str), PyData.strOk acc = true → (∀ t ∈ ts, PyData.strOk t = true) → PyData.strOk (textFrom k acc ts) = true
  | [], _, _, ha, _ => ha
  | t :: r, k, acc, ha, h => by
    refine strOk_from r (k + 1) _ ?_ fun u hu => h u (List.mem_cons_of_mem _ hu)
    rw [strOk_app, strOk_app, ha, strOk_of, h t List.mem_cons_self]
    rfl
mutual
/-- none, truths, ints, texts without signs of their own, rows, the empty dict -/
def okS : PyData → Bool
  | .none => true
  | .bool _ => true
  | .int _ => true
  | .str x => PyData.strOk (PyData.str x).shown
  | .list xs => okSAll xs
  | .tuple xs => okSAll xs
  | .dict kvs => kvs.isEmpty
def okSAll : List PyData → Bool
  | [] => true
  | x :: xs => okS x && okSAll xs
end
mutual
theorem okS_shown : ∀ d : PyData, okS d = true → PyData.strOk d.shown = true
  | .none, _ => strOk_of _
  | .bool true, _ => strOk_of _
  | .bool false, _ => strOk_of _
  | .int i, _ => strOk_of _
  | .str x, h => by simpa [okS] using h
  | .list xs, h => by
    have hx := okS_all xs (by simpa [okS] using h)
    show PyData.strOk (textFrom 0 "[" (PyData.shownAll xs) ++ Str.ofString "]") = true
    rw [strOk_app, strOk_from _ _ _ (strOk_of _) hx, strOk_of]
    rfl
  | .tuple xs, h => by
    have hx := okS_all xs (by simpa [okS] using h)
    show PyData.strOk (Str.ofString "(" ++ Str.join ", " (PyData.shownAll xs) ++ Str.ofString (if (PyData.shownAll xs).length == 1 then ",)" else ")")) = true
    rw [strOk_app, strOk_app, strOk_of, strOk_of, strOk_join _ hx]
    rfl
  | .dict kvs, h => by
    have : kvs = [] := by simpa [okS] using h
    subst this
    exact strOk_of "{}"
theorem okS_all : ∀ xs : List PyData, okSAll xs = true → ∀ t ∈ PyData.shownAll xs, PyData.strOk t = true
  | [], _, t, ht => by cases ht
  | x :: xs, h, t, ht => by
    have h' : okS x = true ∧ okSAll xs = true := by simpa [okSAll] using h
    rcases List.mem_cons.mp ht with rfl | ht
    · exact okS_shown x h'.1
    · exact okS_all xs h'.2 t ht
end
theorem okEq_strL {l : List Str} (h : ∀ x ∈ l, PyData.strOk x = true) : okEq (.list (l.map .str)) = true := by
  have h : PyData.canLayAll0 (l.map .str) = true ∧ PyData.depthAll (l.map .str) = 0 := by
    induction l with
    | nil => exact ⟨rfl, rfl⟩
    | cons x r ih =>
      have ih := ih fun y hy => h y (List.mem_cons_of_mem _ hy)
      have hx := h x List.mem_cons_self
      rw [List.map_cons]
      exact ⟨by rw [PyData.canLayAll0, ih.1, PyData.canLay0, hx]; rfl, by rw [PyData.depthAll, ih.2]; rfl⟩
  unfold okEq SeqAt.shaped
  simp [PyData.canLay0, h.1, PyData.depth, h.2]
theorem eqv_strL (l : List Str) : PyData.eqv (.list (l.map .str)) (.list (l.map .str)) = true := by
  have h : ∀ l : List Str, PyData.eqvAll (l.map .str) (l.map .str) = true := fun l => by
    induction l with
    | nil => rfl
    | cons x r ih =>
      rw [List.map_cons, PyData.eqvAll, ih, Bool.and_true]
      simp [PyData.eqv]
  simp [PyData.eqv, h l]
theorem opNe_same {x : PyData} (hx : okEq x = true) (he : PyData.eqv x x = true) (S : Sto) (hn : ∀ i, x ≠ .str i := by intro i h; cases h) : opEq true (.pd x) (.pd x) S = .ok (.bl false) S := by
  rw [opEq_ex true hx hx S hn, he]
  rfl
theorem neStrL {l : List Str} (h : ∀ x ∈ l, PyData.strOk x = true) (S : Sto) : opEq true (.lst (l.map .str)) (.lst (l.map .str)) S = .ok (.bl false) S := opNe_same (okEq_strL h) (eqv_strL l) S
end DL
end
section
namespace K01
open PySem PySem.Spec PyProof.Rows L2 DL
def topS (i : Nat) : Stmt := PySem.Challenge.pw_comeright_k01_webs_known.main.body.getD i (.Pass ⟨0, 0, 0, 0⟩)
def clsSt (i : Nat) : Stmt := match topS i with
  | .ClassDef _ _ _ body _ _ _ _ _ _ _ => body.getD 0 (.Pass ⟨0, 0, 0, 0⟩)
  | s => s
structure Txt (K : PySem.W.Frag) (P : Params) (mg : Str → Option Value) : Prop where
  n_abs : mg "abs" = none
  n_all : mg "all" = none
  n_bool : mg "bool" = none
  n_int : mg "int" = none
  n_isinstance : mg "isinstance" = none
  n_len : mg "len" = none
  n_list : mg "list" = none
  n_max : mg "max" = none
  n_min : mg "min" = none
  n_range : mg "range" = none
  n_repr : mg "repr" = none
  n_sorted : mg "sorted" = none
  n_tuple : mg "tuple" = none
  n_zip : mg "zip" = none
  c_MOST_SEATS : ∃ t, mg "MOST_SEATS" = some (.int 12 t)
  x_NoWeb : ExcD K mg "NoWeb"
  i_NoSeat : ∃ C fI, DLX.IniTxt K mg "IndexError" "IndexError.__new__" "IndexError.__init__" [.type "IndexError", .type "LookupError", .type "Exception", .type "BaseException", .type "object"] "IndexError" "NoSeat" "seat" "no seat" (clsSt 12) C fI
  c_ComeError : ClsD mg "ComeError"
  c_NoNumber : ClsD mg "NoNumber"
  c_NoSeat : ClsD mg "NoSeat"
  k_ComeError : IssD K mg "ComeError" [("NoWeb", true), ("NoSeat", false)]
  k_NoDeed : IssD K mg "NoDeed" [("NoWeb", false), ("NoSeat", false)]
  k_NoGoes : IssD K mg "NoGoes" [("NoWeb", false), ("NoSeat", false)]
  k_NoNumber : IssD K mg "NoNumber" [("NoWeb", false), ("NoSeat", false)]
  k_NoPlan : IssD K mg "NoPlan" [("NoWeb", false), ("NoSeat", false)]
  k_NoPlans : IssD K mg "NoPlans" [("NoWeb", false), ("NoSeat", false)]
  k_NoRun : IssD K mg "NoRun" [("NoWeb", false), ("NoSeat", false)]
  k_NoScene : IssD K mg "NoScene" [("NoWeb", false), ("NoSeat", false)]
  k_NoSeat : IssD K mg "NoSeat" [("NoWeb", false), ("NoSeat", true)]
  k_NoTable : IssD K mg "NoTable" [("NoWeb", false), ("NoSeat", false)]
  k_NoTerm : IssD K mg "NoTerm" [("NoWeb", false), ("NoSeat", false)]
  k_NoWeb : IssD K mg "NoWeb" [("NoWeb", true), ("NoSeat", false)]
  k_NoWords : IssD K mg "NoWords" [("NoWeb", false), ("NoSeat", false)]
  q_number : ∀ y ∈ ([] : List Str), XfD K mg y "number"
  q_seat : ∀ y ∈ (["NoSeat"] : List Str), XfD K mg y "seat"
  t_ComeError_NoSeat_NoNumber : Exm3 K mg "ComeError" "NoSeat" "NoNumber" [("NoWeb", true || (false || false)), ("NoSeat", false || (true || false))]
/-! _law_pool -/
abbrev s__law_pool : Stmt := topS 27
abbrev N__law_pool : List Str := ["cells", "k", "cell", "great", "mixed"]
abbrev P__law_pool : List Str := ["cells", "k"]
noncomputable def m__law_pool : DM Fl := (sSeq (sSet 2 (eIf (eTest (eOp opLt (eVar 1) (eCall fLen (lCons (eVar 0) lNil)))) (eOp opIx (eVar 0) (eVar 1)) (eK (.int 0))))
    (sSeq (sSet 3 (eCall fAbs (lCons (eVar 2) lNil)))
    (sSeq (sSet 4 (eOp opMod (eOp opAdd (eOp opAdd (eOp opAdd (eOp opMul2 (eOp opMod (eVar 3) (eK (.int 2147483629))) (eK (.int 48271))) (eOp opMul2 (eK (.int 977)) (eVar 1))) (eOp opMul2 (eK (.int 2)) (eCall fInt (lCons (eOp opLt (eVar 2) (eK (.int 0))) lNil)))) (eK (.int 5))) (eK (.int 2147483647))))
    (sRet (eLstM (lCons (eIf (eTest (eOp (opCmpI fun i j => decide (j ≤ i)) (eVar 3) (eOp opPow (eK (.int 10)) (eK (.int 18))))) (eOp opSub (eVar 3) (eOp opPow (eK (.int 10)) (eK (.int 18)))) (eK (.int 0))) (lCons (eVar 4) (lCons (eK (.int 0)) lNil))))))))
noncomputable def f__law_pool : DF := runFM 5 m__law_pool
theorem sc__law_pool : FnScope N__law_pool P__law_pool (defScope s__law_pool) := ⟨rfl, rfl, rfl, by decide +kernel, rfl, by decide +kernel, by decide +kernel⟩
theorem ok__law_pool {P : Program} {w : World} {K : PySem.W.Frag} {mg : Str → Option Value} {base : Heap} {a : Addr} {fd : FuncData} (T : Txt K w.params mg) (F : Fun K "_law_pool" "_law_pool" s__law_pool a fd) (B : BaseD K mg base) : FnG P w K mg base 1 a fd P__law_pool (spM K mg 2 f__law_pool) := by
  refine Fun.dlM (N := N__law_pool) F sc__law_pool fun cdv A outer s H E W as hr => ?_
  have Sc := sc__law_pool
  have hu := hr.rm.units
  have hu65 := units65 hr.rm
  have hu1 := units1 hr.rm
  exact (qs_cons (qs_set (i := 2) Sc.nd rfl (by first | exact Or.inl rfl | exact Or.inr rfl) (px_ifExp (pt_cmpX (ox_lt rfl hu) (pd_var 1) (px_callB (cx_len rfl) (by rfl) T.n_len (by decide +kernel) (px_cons (pd_var 0) px_nil)) (by rfl)) (px_ix rfl (pd_var 0) (pd_var 1)) pd_int))
    (qs_cons (qs_set (i := 3) Sc.nd rfl (by first | exact Or.inl rfl | exact Or.inr rfl) (px_callB cx_abs (by rfl) T.n_abs (by decide +kernel) (px_cons (pd_var 2) px_nil)))
    (qs_cons (qs_set (i := 4) Sc.nd rfl (by first | exact Or.inl rfl | exact Or.inr rfl) (px_op ox_mod (px_op (ox_add rfl) (px_op (ox_add rfl) (px_op (ox_add rfl) (px_op (ox_mul2 rfl) (px_op ox_mod (pd_var 3) pd_int) pd_int) (px_op (ox_mul2 rfl) pd_int (pd_var 1))) (px_op (ox_mul2 rfl) pd_int (px_callTy cx_int (by rfl) T.n_int (by decide +kernel) (px_cons (px_cmp (ox_lt rfl hu) (pd_var 2) pd_int (by rfl)) px_nil)))) pd_int) pd_int))
    (qs_one (qs_ret (px_lstM (px_cons (px_ifExp (pt_cmpX ox_ge (pd_var 3) (px_op ox_pow pd_int pd_int) (by rfl)) (px_op ox_sub (pd_var 3) (px_op ox_pow pd_int pd_int)) pd_int) (px_cons (pd_var 4) (px_cons pd_int px_nil)))))))))
/-! _law_take -/
abbrev s__law_take : Stmt := topS 28
abbrev N__law_take : List Str := ["pool", "many", "found", "one", "two"]
abbrev P__law_take : List Str := ["pool", "many"]
noncomputable def m__law_take : DM Fl := (sSeq (sIf (eTest (eOp (opCmpI fun i j => decide (j < i)) (eOp opIx (eVar 0) (eK (.int 0))) (eK (.int 0)))) (sSeq (sSet 2 (eOp opMod (eOp opIx (eVar 0) (eK (.int 0))) (eVar 1)))
    (sSeq (sSetIx (eVar 0) (eK (.int 0)) (eOp opDiv (eOp opIx (eVar 0) (eK (.int 0))) (eVar 1)))
    (sRet (eVar 2)))) sNext)
    (sSeq (sSetIx (eVar 0) (eK (.int 2)) (eOp opAdd (eOp opIx (eVar 0) (eK (.int 2))) (eK (.int 1))))
    (sSeq (sSet 3 (eOp opMod (eOp opAdd (eOp opIx (eVar 0) (eK (.int 1))) (eOp opMul2 (eK (.int 1000003)) (eOp opIx (eVar 0) (eK (.int 2))))) (eK (.int 2305843009213693951))))
    (sSeq (sSet 4 (eOp opMod (eOp opAdd (eOp opMul2 (eOp opMod (eOp opMul2 (eVar 3) (eVar 3)) (eK (.int 2305843009213693921))) (eVar 3)) (eOp opMul2 (eK (.int 8191)) (eOp opIx (eVar 0) (eK (.int 2))))) (eK (.int 2305843009213693907))))
    (sRet (eOp opMod (eOp opDiv (eVar 4) (eK (.int 4096))) (eVar 1)))))))
noncomputable def f__law_take : DF := runF 5 m__law_take
theorem sc__law_take : FnScope N__law_take P__law_take (defScope s__law_take) := ⟨rfl, rfl, rfl, by decide +kernel, rfl, by decide +kernel, by decide +kernel⟩
theorem ok__law_take {P : Program} {w : World} {K : PySem.W.Frag} {mg : Str → Option Value} {base : Heap} {a : Addr} {fd : FuncData} (T : Txt K w.params mg) (F : Fun K "_law_take" "_law_take" s__law_take a fd) (B : BaseD K mg base) : FnG P w K mg base 1 a fd P__law_take (spM K mg 2 f__law_take) := by
  refine Fun.dl (N := N__law_take) F sc__law_take fun cdv A outer s H E W as hr => ?_
  have Sc := sc__law_take
  have hu := hr.rm.units
  have hu65 := units65 hr.rm
  have hu1 := units1 hr.rm
  exact (qs_cons (qs_if (pt_cmpX ox_gt (px_ix rfl (pd_var 0) pd_int) pd_int (by rfl)) (qs_cons (qs_set (i := 2) Sc.nd rfl (by first | exact Or.inl rfl | exact Or.inr rfl) (px_op ox_mod (px_ix rfl (pd_var 0) pd_int) (pd_var 1)))
    (qs_cons (qs_setIx (pd_var 0) pd_int (px_op ox_div (px_ix rfl (pd_var 0) pd_int) (pd_var 1)))
    (qs_one (qs_ret (pd_var 2))))) qs_nil)
    (qs_cons (qs_setIx (pd_var 0) pd_int (px_op (ox_add rfl) (px_ix rfl (pd_var 0) pd_int) pd_int))
    (qs_cons (qs_set (i := 3) Sc.nd rfl (by first | exact Or.inl rfl | exact Or.inr rfl) (px_op ox_mod (px_op (ox_add rfl) (px_ix rfl (pd_var 0) pd_int) (px_op (ox_mul2 rfl) pd_int (px_ix rfl (pd_var 0) pd_int))) pd_int))
    (qs_cons (qs_set (i := 4) Sc.nd rfl (by first | exact Or.inl rfl | exact Or.inr rfl) (px_op ox_mod (px_op (ox_add rfl) (px_op (ox_mul2 rfl) (px_op ox_mod (px_op (ox_mul2 rfl) (pd_var 3) (pd_var 3)) pd_int) (pd_var 3)) (px_op (ox_mul2 rfl) pd_int (px_ix rfl (pd_var 0) pd_int))) pd_int))
    (qs_one (qs_ret (px_op ox_mod (px_op ox_div (pd_var 4) pd_int) (pd_var 1))))))))
/-! _law_any_web -/
abbrev s__law_any_web : Stmt := topS 29
abbrev N__law_any_web : List Str := ["pool", "most", "many", "way", "ties", "b", "a", "is_in"]
abbrev P__law_any_web : List Str := ["pool", "most"]
noncomputable def q_law_any_web_b1 : DM Fl := (sSeq (sIf (eTest (eOp (opEq false) (eVar 3) (eK (.int 0)))) (sSet 7 (eOp (opEq false) (eVar 5) (eOp opAdd (eVar 6) (eK (.int 1))))) (sIf (eTest (eOp (opEq false) (eVar 3) (eK (.int 1)))) (sSet 7 (eOr (eOp (opEq false) (eVar 5) (eOp opAdd (eVar 6) (eK (.int 1)))) (eOp (opEq false) (eTup (lCons (eVar 6) (lCons (eVar 5) lNil))) (eTup (lCons (eK (.int 0)) (lCons (eOp opSub (eVar 2) (eK (.int 1))) lNil)))))) (sIf (eTest (eOp (opEq false) (eVar 3) (eK (.int 2)))) (sSet 7 (eOp (opEq false) (eVar 6) (eK (.int 0)))) (sIf (eTest (eOp (opEq false) (eVar 3) (eK (.int 3)))) (sSet 7 (eK (.bl true))) (sIf (eTest (eOp (opEq false) (eVar 3) (eK (.int 4)))) (sSet 7 (eK (.bl false))) (sSet 7 (eOr (eOp (opEq false) (mBind (lCons (eVar 0) (lCons (eK (.int 3)) lNil)) (callF 2 f__law_take)) (eK (.int 0))) (eAnd (eOp (opEq false) (eVar 5) (eOp opAdd (eVar 6) (eK (.int 1)))) (eOp (opEq false) (eVar 3) (eK (.int 5)))))))))))
    (sExpr (eMeth "list" mExtend (eVar 4) (lCons (eOp opMul2 (eLst (lCons (eTup (lCons (eVar 6) (lCons (eVar 5) lNil))) lNil)) (eCall fInt (lCons (eVar 7) lNil))) lNil))))
noncomputable def q_law_any_web_b2 : DM Fl := (sFor [6, 7] (iRange1 (lCons (eVar 5) lNil)) (tgName 6) q_law_any_web_b1)
noncomputable def m__law_any_web : DM Fl := (sSeq (sSet 2 (eOp opAdd (eK (.int 1)) (mBind (lCons (eVar 0) (lCons (eVar 1) lNil)) (callF 2 f__law_take))))
    (sSeq (sSet 3 (mBind (lCons (eVar 0) (lCons (eK (.int 8)) lNil)) (callF 2 f__law_take)))
    (sSeq (sSet 4 (eLstM lNil))
    (sSeq (sFor [5, 6, 7] (iRange1 (lCons (eVar 2) lNil)) (tgName 5) q_law_any_web_b2)
    (sRet (eTup (lCons (eVar 2) (lCons (eCall fTuple (lCons (eCall fSorted (lCons (eVar 4) lNil)) lNil)) lNil))))))))
noncomputable def f__law_any_web : DF := runF 8 m__law_any_web
theorem sc__law_any_web : FnScope N__law_any_web P__law_any_web (defScope s__law_any_web) := ⟨rfl, rfl, rfl, by decide +kernel, rfl, by decide +kernel, by decide +kernel⟩
theorem ok__law_any_web {P : Program} {w : World} {K : PySem.W.Frag} {mg : Str → Option Value} {base : Heap} {a : Addr} {fd : FuncData} (T : Txt K w.params mg) (F : Fun K "_law_any_web" "_law_any_web" s__law_any_web a fd) (B : BaseD K mg base) (C__law_take : Cal P w K mg base 1 "_law_take" P__law_take f__law_take) : FnG P w K mg base 2 a fd P__law_any_web (spM K mg 2 f__law_any_web) := by
  refine Fun.dl (N := N__law_any_web) F sc__law_any_web fun cdv A outer s H E W as hr => ?_
  have Sc := sc__law_any_web
  have hu := hr.rm.units
  have hu65 := units65 hr.rm
  have hu1 := units1 hr.rm
  exact (qs_cons (qs_set (i := 2) Sc.nd rfl (by first | exact Or.inl rfl | exact Or.inr rfl) (px_op (ox_add rfl) pd_int (px_callC C__law_take hr (by rfl) rfl rfl (takes_of rfl rfl rfl rfl) (px_cons (pd_var 0) (px_cons (pd_var 1) px_nil)))))
    (qs_cons (qs_set (i := 3) Sc.nd rfl (by first | exact Or.inl rfl | exact Or.inr rfl) (px_callC C__law_take hr (by rfl) rfl rfl (takes_of rfl rfl rfl rfl) (px_cons (pd_var 0) (px_cons pd_int px_nil))))
    (qs_cons (qs_set (i := 4) Sc.nd rfl (by first | exact Or.inl rfl | exact Or.inr rfl) (px_lstM px_nil))
    (qs_cons (qs_for (passes_of rfl) rfl (ix_range1 (by rfl) T.n_range (px_cons (pd_var 2) px_nil)) (gx_name (i := 5) Sc.nd rfl (by first | exact Or.inl rfl | exact Or.inr rfl)) (qs_one (qs_for (passes_of rfl) rfl (ix_range1 (by rfl) T.n_range (px_cons (pd_var 5) px_nil)) (gx_name (i := 6) Sc.nd rfl (by first | exact Or.inl rfl | exact Or.inr rfl)) (qs_cons (qs_if (pt_cmpX (ox_eq rfl hu) (pd_var 3) pd_int (by rfl)) (qs_one (qs_set (i := 7) Sc.nd rfl (by first | exact Or.inl rfl | exact Or.inr rfl) (px_cmp (ox_eq rfl hu) (pd_var 5) (px_op (ox_add rfl) (pd_var 6) pd_int) (by rfl)))) (qs_one (qs_if (pt_cmpX (ox_eq rfl hu) (pd_var 3) pd_int (by rfl)) (qs_one (qs_set (i := 7) Sc.nd rfl (by first | exact Or.inl rfl | exact Or.inr rfl) (px_or rfl (px_cmp (ox_eq rfl hu) (pd_var 5) (px_op (ox_add rfl) (pd_var 6) pd_int) (by rfl)) (px_one (px_cmp (ox_eq rfl hu) (px_tup (px_cons (pd_var 6) (px_cons (pd_var 5) px_nil))) (px_tup (px_cons pd_int (px_cons (px_op ox_sub (pd_var 2) pd_int) px_nil))) (by rfl)))))) (qs_one (qs_if (pt_cmpX (ox_eq rfl hu) (pd_var 3) pd_int (by rfl)) (qs_one (qs_set (i := 7) Sc.nd rfl (by first | exact Or.inl rfl | exact Or.inr rfl) (px_cmp (ox_eq rfl hu) (pd_var 6) pd_int (by rfl)))) (qs_one (qs_if (pt_cmpX (ox_eq rfl hu) (pd_var 3) pd_int (by rfl)) (qs_one (qs_set (i := 7) Sc.nd rfl (by first | exact Or.inl rfl | exact Or.inr rfl) pd_bl)) (qs_one (qs_if (pt_cmpX (ox_eq rfl hu) (pd_var 3) pd_int (by rfl)) (qs_one (qs_set (i := 7) Sc.nd rfl (by first | exact Or.inl rfl | exact Or.inr rfl) pd_bl)) (qs_one (qs_set (i := 7) Sc.nd rfl (by first | exact Or.inl rfl | exact Or.inr rfl) (px_or rfl (px_cmp (ox_eq rfl hu) (px_callC C__law_take hr (by rfl) rfl rfl (takes_of rfl rfl rfl rfl) (px_cons (pd_var 0) (px_cons pd_int px_nil))) pd_int (by rfl)) (px_one (px_and rfl (px_cmp (ox_eq rfl hu) (pd_var 5) (px_op (ox_add rfl) (pd_var 6) pd_int) (by rfl)) (px_one (px_cmp (ox_eq rfl hu) (pd_var 3) pd_int (by rfl)))))))))))))))))
    (qs_one (qs_expr (px_bm rfl PySem.F.plainAttrs_list PySem.F.slot_list_extend PySem.F.type_list_extend mx_extend (pd_var 4) (px_cons (px_op (ox_mul2 rfl) (px_lst (px_cons (px_tup (px_cons (pd_var 6) (px_cons (pd_var 5) px_nil))) px_nil)) (px_callTy cx_int (by rfl) T.n_int (by decide +kernel) (px_cons (pd_var 7) px_nil))) px_nil))))))))
    (qs_one (qs_ret (px_tup (px_cons (pd_var 2) (px_cons (px_callTy (cx_tuple rfl) (by rfl) T.n_tuple (by decide +kernel) (px_cons (px_callB (cx_sorted rfl hu) (by rfl) T.n_sorted (by decide +kernel) (px_cons (pd_var 4) px_nil)) px_nil)) px_nil)))))))))
/-! is_whole -/
abbrev s_is_whole : Stmt := topS 16
abbrev N_is_whole : List Str := ["thing"]
abbrev P_is_whole : List Str := ["thing"]
noncomputable def m_is_whole : DM Fl := (sRet (eAnd (eIsI .int (eVar 0)) (eNot (eIsI .bool (eVar 0)))))
noncomputable def f_is_whole : DF := runF 1 m_is_whole
theorem sc_is_whole : FnScope N_is_whole P_is_whole (defScope s_is_whole) := ⟨rfl, rfl, rfl, by decide +kernel, rfl, by decide +kernel, by decide +kernel⟩
theorem ok_is_whole {P : Program} {w : World} {K : PySem.W.Frag} {mg : Str → Option Value} {base : Heap} {a : Addr} {fd : FuncData} (T : Txt K w.params mg) (F : Fun K "is_whole" "is_whole" s_is_whole a fd) (B : BaseD K mg base) : FnG P w K mg base 1 a fd P_is_whole (spM K mg 1 f_is_whole) := by
  refine Fun.dl (N := N_is_whole) F sc_is_whole fun cdv A outer s H E W as hr => ?_
  have Sc := sc_is_whole
  have hu := hr.rm.units
  have hu65 := units65 hr.rm
  have hu1 := units1 hr.rm
  exact (qs_one (qs_ret (px_and rfl (px_isi rfl .int (by decide +kernel) (by rfl) T.n_isinstance (by rfl) T.n_int (pd_var 0)) (px_one (px_not rfl (px_isi rfl .bool (by decide +kernel) (by rfl) T.n_isinstance (by rfl) T.n_bool (pd_var 0)))))))
/-! is_below -/
abbrev s_is_below : Stmt := topS 17
abbrev N_is_below : List Str := ["thing", "many"]
abbrev P_is_below : List Str := ["thing", "many"]
noncomputable def m_is_below : DM Fl := (sRet (eAnd (mBind (lCons (eVar 0) lNil) (callF 1 f_is_whole)) (eChain (opCmpI fun i j => decide (i ≤ j)) opLt (eK (.int 0)) (eVar 0) (eVar 1))))
noncomputable def f_is_below : DF := runF 2 m_is_below
theorem sc_is_below : FnScope N_is_below P_is_below (defScope s_is_below) := ⟨rfl, rfl, rfl, by decide +kernel, rfl, by decide +kernel, by decide +kernel⟩
theorem ok_is_below {P : Program} {w : World} {K : PySem.W.Frag} {mg : Str → Option Value} {base : Heap} {a : Addr} {fd : FuncData} (T : Txt K w.params mg) (F : Fun K "is_below" "is_below" s_is_below a fd) (B : BaseD K mg base) (C_is_whole : Cal P w K mg base 1 "is_whole" P_is_whole f_is_whole) : FnG P w K mg base 2 a fd P_is_below (spM K mg 2 f_is_below) := by
  refine Fun.dl (N := N_is_below) F sc_is_below fun cdv A outer s H E W as hr => ?_
  have Sc := sc_is_below
  have hu := hr.rm.units
  have hu65 := units65 hr.rm
  have hu1 := units1 hr.rm
  exact (qs_one (qs_ret (px_and rfl (px_callC C_is_whole hr (by rfl) rfl rfl (takes_of rfl rfl rfl rfl) (px_cons (pd_var 0) px_nil)) (px_one (px_chain ox_le (ox_lt rfl hu) pd_int (pd_var 0) (pd_var 1))))))
/-! are_below -/
abbrev s_are_below : Stmt := topS 18
abbrev N_are_below : List Str := ["thing", "many", "one"]
abbrev P_are_below : List Str := ["thing", "many"]
noncomputable def qare_below_e1 : DM D := (mBind (lCons (eVar 2) (lCons (eVar 1) lNil)) (callF 2 f_is_below))
noncomputable def m_are_below : DM Fl := (sRet (eAnd (eIsI .tuple (eVar 0)) (eCall fAll (lCons (eLc [2] (iSeq (eVar 0)) (tgName 2) (mRet true) qare_below_e1) lNil))))
noncomputable def f_are_below : DF := runF 3 m_are_below
theorem sc_are_below : FnScope N_are_below P_are_below (defScope s_are_below) := ⟨rfl, rfl, rfl, by decide +kernel, rfl, by decide +kernel, by decide +kernel⟩
theorem ok_are_below {P : Program} {w : World} {K : PySem.W.Frag} {mg : Str → Option Value} {base : Heap} {a : Addr} {fd : FuncData} (T : Txt K w.params mg) (F : Fun K "are_below" "are_below" s_are_below a fd) (B : BaseD K mg base) (C_is_below : Cal P w K mg base 2 "is_below" P_is_below f_is_below) : FnG P w K mg base 3 a fd P_are_below (spM K mg 2 f_are_below) := by
  refine Fun.dl (N := N_are_below) F sc_are_below fun cdv A outer s H E W as hr => ?_
  have Sc := sc_are_below
  have hu := hr.rm.units
  have hu65 := units65 hr.rm
  have hu1 := units1 hr.rm
  exact (qs_one (qs_ret (px_and rfl (px_isi rfl .tuple (by decide +kernel) (by rfl) T.n_isinstance (by rfl) T.n_tuple (pd_var 0)) (px_one (px_callB (cx_all rfl) (by rfl) T.n_all (by decide +kernel) (px_cons (px_lc (own := [("one", 2)]) rfl rfl rfl Sc.nd (ix_seq rfl (pd_var 0)) (by exact blkOk_by (N := N_are_below) (sc := defScope s_are_below) (own := [("one", 2)]) (by first | decide +kernel | kernel_rfl | rfl)) (fun s1 H1 C1 cl1 fp1 => (pg_name (i := 2) Sc.nd rfl (by first | exact Or.inl rfl | exact Or.inr rfl))) (tr_name) (fun s1 H1 C1 cl1 fp1 g1 hK1 hM1 => ptsx_nil) (fun s1 H1 C1 cl1 fp1 g1 hK1 hM1 => (px_callC C_is_below hr (by rfl) hK1 hM1 takes0 (px_cons (pd_var 2) (px_cons (pd_var 1) px_nil))))) px_nil))))))
/-! is_tie -/
abbrev s_is_tie : Stmt := topS 20
abbrev N_is_tie : List Str := ["thing", "many"]
abbrev P_is_tie : List Str := ["thing", "many"]
noncomputable def m_is_tie : DM Fl := (sRet (eAnd (mBind (lCons (eVar 0) (lCons (eVar 1) lNil)) (callF 2 f_are_below)) (eAnd (eOp (opEq false) (eCall fLen (lCons (eVar 0) lNil)) (eK (.int 2))) (eOp opLt (eOp opIx (eVar 0) (eK (.int 0))) (eOp opIx (eVar 0) (eK (.int 1)))))))
noncomputable def f_is_tie : DF := runF 2 m_is_tie
theorem sc_is_tie : FnScope N_is_tie P_is_tie (defScope s_is_tie) := ⟨rfl, rfl, rfl, by decide +kernel, rfl, by decide +kernel, by decide +kernel⟩
theorem ok_is_tie {P : Program} {w : World} {K : PySem.W.Frag} {mg : Str → Option Value} {base : Heap} {a : Addr} {fd : FuncData} (T : Txt K w.params mg) (F : Fun K "is_tie" "is_tie" s_is_tie a fd) (B : BaseD K mg base) (C_are_below : Cal P w K mg base 3 "are_below" P_are_below f_are_below) : FnG P w K mg base 4 a fd P_is_tie (spM K mg 2 f_is_tie) := by
  refine Fun.dl (N := N_is_tie) F sc_is_tie fun cdv A outer s H E W as hr => ?_
  have Sc := sc_is_tie
  have hu := hr.rm.units
  have hu65 := units65 hr.rm
  have hu1 := units1 hr.rm
  exact (qs_one (qs_ret (px_and rfl (px_callC C_are_below hr (by rfl) rfl rfl (takes_of rfl rfl rfl rfl) (px_cons (pd_var 0) (px_cons (pd_var 1) px_nil))) (px_and rfl (px_cmp (ox_eq rfl hu) (px_callB (cx_len rfl) (by rfl) T.n_len (by decide +kernel) (px_cons (pd_var 0) px_nil)) pd_int (by rfl)) (px_one (px_cmp (ox_lt rfl hu) (px_ix rfl (pd_var 0) pd_int) (px_ix rfl (pd_var 0) pd_int) (by rfl)))))))
/-! are_rising -/
abbrev s_are_rising : Stmt := topS 19
abbrev N_are_rising : List Str := ["row", "one", "other"]
abbrev P_are_rising : List Str := ["row"]
noncomputable def qare_rising_e1 : DM D := (eOp opLt (eVar 1) (eVar 2))
noncomputable def m_are_rising : DM Fl := (sRet (eCall fAll (lCons (eLc [1, 2] (iZip (lCons (eVar 0) (lCons (eSlice (eVar 0) (mBind (eK (.int 1)) asI) (mRet none)) lNil))) (tgTup (tgCons (tgName 1) (tgCons (tgName 2) tgNil))) (mRet true) qare_rising_e1) lNil)))
noncomputable def f_are_rising : DF := runF 3 m_are_rising
theorem sc_are_rising : FnScope N_are_rising P_are_rising (defScope s_are_rising) := ⟨rfl, rfl, rfl, by decide +kernel, rfl, by decide +kernel, by decide +kernel⟩
theorem ok_are_rising {P : Program} {w : World} {K : PySem.W.Frag} {mg : Str → Option Value} {base : Heap} {a : Addr} {fd : FuncData} (T : Txt K w.params mg) (F : Fun K "are_rising" "are_rising" s_are_rising a fd) (B : BaseD K mg base) : FnG P w K mg base 1 a fd P_are_rising (spM K mg 1 f_are_rising) := by
  refine Fun.dl (N := N_are_rising) F sc_are_rising fun cdv A outer s H E W as hr => ?_
  have Sc := sc_are_rising
  have hu := hr.rm.units
  have hu65 := units65 hr.rm
  have hu1 := units1 hr.rm
  exact (qs_one (qs_ret (px_callB (cx_all rfl) (by rfl) T.n_all (by decide +kernel) (px_cons (px_lc (own := [("one", 1), ("other", 2)]) rfl rfl rfl Sc.nd (ix_zip rfl (by rfl) T.n_zip (px_cons (pd_var 0) (px_cons (px_sliceT rfl (pd_var 0) (po_someX pd_int) po_noneX) px_nil))) (by exact blkOk_by (N := N_are_rising) (sc := defScope s_are_rising) (own := [("one", 1), ("other", 2)]) (by first | decide +kernel | kernel_rfl | rfl)) (fun s1 H1 C1 cl1 fp1 => (pg_tup rfl (pgs_cons (pg_name (i := 1) Sc.nd rfl (by first | exact Or.inl rfl | exact Or.inr rfl)) (pgs_cons (pg_name (i := 2) Sc.nd rfl (by first | exact Or.inl rfl | exact Or.inr rfl)) pgs_nil)))) (tr_tup (tr_cons (tr_name) (tr_cons (tr_name) tr_nil)) (tgCons_len (tgCons_len tgNil_len))) (fun s1 H1 C1 cl1 fp1 g1 hK1 hM1 => ptsx_nil) (fun s1 H1 C1 cl1 fp1 g1 hK1 hM1 => (px_cmp (ox_lt hK1 hu) (pd_var 1) (pd_var 2) (by rfl)))) px_nil))))
/-! is_web -/
abbrev s_is_web : Stmt := topS 21
abbrev N_is_web : List Str := ["thing", "many", "ties", "tie"]
abbrev P_is_web : List Str := ["thing"]
noncomputable def qis_web_e1 : DM D := (mBind (lCons (eVar 3) (lCons (eVar 1) lNil)) (callF 2 f_is_tie))
noncomputable def m_is_web : DM Fl := (sSeq (sIf (bOr (bNot (eTru (eIsI .tuple (eVar 0)))) (eTest (eOp (opEq true) (eCall fLen (lCons (eVar 0) lNil)) (eK (.int 2))))) (sRet (eK (.bl false))) sNext)
    (sSeq (sAsg (tgSq (tgCons (tgName 1) (tgCons (tgName 2) tgNil))) (eVar 0))
    (sSeq (sIf (bOr (bNot (eTru (mBind (lCons (eVar 1) (lCons (eOp opAdd (eK (.int 12)) (eK (.int 1))) lNil)) (callF 2 f_is_below)))) (bOr (eTest (eOp (opEq false) (eVar 1) (eK (.int 0)))) (bNot (eTru (eIsI .tuple (eVar 2)))))) (sRet (eK (.bl false))) sNext)
    (sRet (eAnd (eCall fAll (lCons (eLc [3] (iSeq (eVar 2)) (tgName 3) (mRet true) qis_web_e1) lNil)) (mBind (lCons (eVar 2) lNil) (callF 1 f_are_rising)))))))
noncomputable def f_is_web : DF := runF 4 m_is_web
theorem sc_is_web : FnScope N_is_web P_is_web (defScope s_is_web) := ⟨rfl, rfl, rfl, by decide +kernel, rfl, by decide +kernel, by decide +kernel⟩
theorem ok_is_web {P : Program} {w : World} {K : PySem.W.Frag} {mg : Str → Option Value} {base : Heap} {a : Addr} {fd : FuncData} (T : Txt K w.params mg) (F : Fun K "is_web" "is_web" s_is_web a fd) (B : BaseD K mg base) (C_is_below : Cal P w K mg base 4 "is_below" P_is_below f_is_below) (C_is_tie : Cal P w K mg base 4 "is_tie" P_is_tie f_is_tie) (C_are_rising : Cal P w K mg base 4 "are_rising" P_are_rising f_are_rising) : FnG P w K mg base 5 a fd P_is_web (spM K mg 1 f_is_web) := by
  refine Fun.dl (N := N_is_web) F sc_is_web fun cdv A outer s H E W as hr => ?_
  have Sc := sc_is_web
  have hu := hr.rm.units
  have hu65 := units65 hr.rm
  have hu1 := units1 hr.rm
  exact (qs_cons (qs_if (PW.pt (pw_orX (pt_notX (pt_tru rfl (px_isi rfl .tuple (by decide +kernel) (by rfl) T.n_isinstance (by rfl) T.n_tuple (pd_var 0)))) (pw_or1X (pt_cmpX (ox_ne rfl hu) (px_callB (cx_len rfl) (by rfl) T.n_len (by decide +kernel) (px_cons (pd_var 0) px_nil)) pd_int (by rfl))))) (qs_one (qs_ret pd_bl)) qs_nil)
    (qs_cons (qs_asg (pd_var 0) (GT.sq rfl rfl (gx_cons (gx_name (i := 1) Sc.nd rfl (by first | exact Or.inl rfl | exact Or.inr rfl)) (gx_cons (gx_name (i := 2) Sc.nd rfl (by first | exact Or.inl rfl | exact Or.inr rfl)) gx_nil)) rfl rfl (tgCons_len (tgCons_len tgNil_len))))
    (qs_cons (qs_if (PW.pt (pw_orX (pt_notX (pt_tru rfl (px_callC C_is_below hr (by rfl) rfl rfl (takes_of rfl rfl rfl rfl) (px_cons (pd_var 1) (px_cons (px_op (ox_add rfl) (pd_globI (by rfl) T.c_MOST_SEATS) pd_int) px_nil))))) (pw_orX (pt_cmpX (ox_eq rfl hu) (pd_var 1) pd_int (by rfl)) (pw_or1X (pt_notX (pt_tru rfl (px_isi rfl .tuple (by decide +kernel) (by rfl) T.n_isinstance (by rfl) T.n_tuple (pd_var 2)))))))) (qs_one (qs_ret pd_bl)) qs_nil)
    (qs_one (qs_ret (px_and rfl (px_callB (cx_all rfl) (by rfl) T.n_all (by decide +kernel) (px_cons (px_lc (own := [("tie", 3)]) rfl rfl rfl Sc.nd (ix_seq rfl (pd_var 2)) (by exact blkOk_by (N := N_is_web) (sc := defScope s_is_web) (own := [("tie", 3)]) (by first | decide +kernel | kernel_rfl | rfl)) (fun s1 H1 C1 cl1 fp1 => (pg_name (i := 3) Sc.nd rfl (by first | exact Or.inl rfl | exact Or.inr rfl))) (tr_name) (fun s1 H1 C1 cl1 fp1 g1 hK1 hM1 => ptsx_nil) (fun s1 H1 C1 cl1 fp1 g1 hK1 hM1 => (px_callC C_is_tie hr (by rfl) hK1 hM1 takes0 (px_cons (pd_var 3) (px_cons (pd_var 1) px_nil))))) px_nil)) (px_one (px_callC C_are_rising hr (by rfl) rfl rfl (takes_of rfl rfl rfl rfl) (px_cons (pd_var 2) px_nil)))))))))
/-! need_web -/
abbrev s_need_web : Stmt := topS 22
abbrev N_need_web : List Str := ["web"]
abbrev P_need_web : List Str := ["web"]
noncomputable def m_need_web : DM Fl := (sIf (bNot (eTru (mBind (lCons (eVar 0) lNil) (callF 1 f_is_web)))) (sRaise "NoWeb") sNext)
noncomputable def f_need_web : DF := runF 1 m_need_web
theorem sc_need_web : FnScope N_need_web P_need_web (defScope s_need_web) := ⟨rfl, rfl, rfl, by decide +kernel, rfl, by decide +kernel, by decide +kernel⟩
theorem ok_need_web {P : Program} {w : World} {K : PySem.W.Frag} {mg : Str → Option Value} {base : Heap} {a : Addr} {fd : FuncData} (T : Txt K w.params mg) (F : Fun K "need_web" "need_web" s_need_web a fd) (B : BaseD K mg base) (C_is_web : Cal P w K mg base 5 "is_web" P_is_web f_is_web) : FnG P w K mg base 6 a fd P_need_web (spM K mg 1 f_need_web) := by
  refine Fun.dl (N := N_need_web) F sc_need_web fun cdv A outer s H E W as hr => ?_
  have Sc := sc_need_web
  have hu := hr.rm.units
  have hu65 := units65 hr.rm
  have hu1 := units1 hr.rm
  exact (qs_one (qs_if (pt_notX (pt_tru rfl (px_callC C_is_web hr (by rfl) rfl rfl (takes_of rfl rfl rfl rfl) (px_cons (pd_var 0) px_nil)))) (qs_one (qs_raise rfl rfl (takes_of rfl rfl rfl rfl) T.x_NoWeb (by rfl))) qs_nil))
/-! need_seat -/
abbrev s_need_seat : Stmt := topS 23
abbrev N_need_seat : List Str := ["web", "seat"]
abbrev P_need_seat : List Str := ["web", "seat"]
noncomputable def m_need_seat : DM Fl := (sIf (bNot (eTru (mBind (lCons (eVar 1) (lCons (eOp opIx (eVar 0) (eK (.int 0))) lNil)) (callF 2 f_is_below)))) (sRaiseF "NoSeat" "seat" (eVar 1)) sNext)
noncomputable def f_need_seat : DF := runF 2 m_need_seat
theorem sc_need_seat : FnScope N_need_seat P_need_seat (defScope s_need_seat) := ⟨rfl, rfl, rfl, by decide +kernel, rfl, by decide +kernel, by decide +kernel⟩
theorem ok_need_seat {P : Program} {w : World} {K : PySem.W.Frag} {mg : Str → Option Value} {base : Heap} {a : Addr} {fd : FuncData} (T : Txt K w.params mg) (F : Fun K "need_seat" "need_seat" s_need_seat a fd) (B : BaseD K mg base) (C_is_below : Cal P w K mg base 2 "is_below" P_is_below f_is_below) : FnG P w K mg base 3 a fd P_need_seat (spM K mg 2 f_need_seat) := by
  refine Fun.dl (N := N_need_seat) F sc_need_seat fun cdv A outer s H E W as hr => ?_
  have Sc := sc_need_seat
  have hu := hr.rm.units
  have hu65 := units65 hr.rm
  have hu1 := units1 hr.rm
  exact (qs_one (qs_if (pt_notX (pt_tru rfl (px_callC C_is_below hr (by rfl) rfl rfl (takes_of rfl rfl rfl rfl) (px_cons (pd_var 1) (px_cons (px_ix rfl (pd_var 0) pd_int) px_nil))))) (qs_one (qs_raiseF rfl rfl (takes_of rfl rfl rfl rfl) T.i_NoSeat hr.rm (pd_var 1) (by rfl))) qs_nil))
/-! neighbours_by -/
abbrev s_neighbours_by : Stmt := topS 24
abbrev N_neighbours_by : List Str := ["web", "seat", "a", "b"]
abbrev P_neighbours_by : List Str := ["web", "seat"]
noncomputable def qneighbours_by_t1 : DM Bool := (eTest (eOp (opIn false) (eVar 1) (eTup (lCons (eVar 2) (lCons (eVar 3) lNil)))))
noncomputable def qneighbours_by_e2 : DM D := (eOp opSub (eOp opAdd (eVar 2) (eVar 3)) (eVar 1))
noncomputable def m_neighbours_by : DM Fl := (sRet (eCall fTuple (lCons (eLc [2, 3] (iSeq (eOp opIx (eVar 0) (eK (.int 1)))) (tgTup (tgCons (tgName 2) (tgCons (tgName 3) tgNil))) qneighbours_by_t1 qneighbours_by_e2) lNil)))
noncomputable def f_neighbours_by : DF := runF 4 m_neighbours_by
theorem sc_neighbours_by : FnScope N_neighbours_by P_neighbours_by (defScope s_neighbours_by) := ⟨rfl, rfl, rfl, by decide +kernel, rfl, by decide +kernel, by decide +kernel⟩
theorem ok_neighbours_by {P : Program} {w : World} {K : PySem.W.Frag} {mg : Str → Option Value} {base : Heap} {a : Addr} {fd : FuncData} (T : Txt K w.params mg) (F : Fun K "neighbours_by" "neighbours_by" s_neighbours_by a fd) (B : BaseD K mg base) : FnG P w K mg base 1 a fd P_neighbours_by (spM K mg 2 f_neighbours_by) := by
  refine Fun.dl (N := N_neighbours_by) F sc_neighbours_by fun cdv A outer s H E W as hr => ?_
  have Sc := sc_neighbours_by
  have hu := hr.rm.units
  have hu65 := units65 hr.rm
  have hu1 := units1 hr.rm
  exact (qs_one (qs_ret (px_callTy (cx_tuple rfl) (by rfl) T.n_tuple (by decide +kernel) (px_cons (px_lc (own := [("a", 2), ("b", 3)]) rfl rfl rfl Sc.nd (ix_seq rfl (px_ix rfl (pd_var 0) pd_int)) (by exact blkOk_by (N := N_neighbours_by) (sc := defScope s_neighbours_by) (own := [("a", 2), ("b", 3)]) (by first | decide +kernel | kernel_rfl | rfl)) (fun s1 H1 C1 cl1 fp1 => (pg_tup rfl (pgs_cons (pg_name (i := 2) Sc.nd rfl (by first | exact Or.inl rfl | exact Or.inr rfl)) (pgs_cons (pg_name (i := 3) Sc.nd rfl (by first | exact Or.inl rfl | exact Or.inr rfl)) pgs_nil)))) (tr_tup (tr_cons (tr_name) (tr_cons (tr_name) tr_nil)) (tgCons_len (tgCons_len tgNil_len))) (fun s1 H1 C1 cl1 fp1 g1 hK1 hM1 => (ptsx_one (pt_cmpX (ox_in hK1 hu65) (pd_var 1) (px_tup (px_cons (pd_var 2) (px_cons (pd_var 3) px_nil))) (by rfl)))) (fun s1 H1 C1 cl1 fp1 g1 hK1 hM1 => (px_op ox_sub (px_op (ox_add hK1) (pd_var 2) (pd_var 3)) (pd_var 1)))) px_nil))))
/-! neighbours -/
abbrev s_neighbours : Stmt := topS 25
abbrev N_neighbours : List Str := ["web", "seat"]
abbrev P_neighbours : List Str := ["web", "seat"]
noncomputable def m_neighbours : DM Fl := (sSeq (sExpr (mBind (lCons (eVar 0) lNil) (callF 1 f_need_web)))
    (sSeq (sExpr (mBind (lCons (eVar 0) (lCons (eVar 1) lNil)) (callF 2 f_need_seat)))
    (sRet (mBind (lCons (eVar 0) (lCons (eVar 1) lNil)) (callF 2 f_neighbours_by)))))
noncomputable def f_neighbours : DF := runF 2 m_neighbours
theorem sc_neighbours : FnScope N_neighbours P_neighbours (defScope s_neighbours) := ⟨rfl, rfl, rfl, by decide +kernel, rfl, by decide +kernel, by decide +kernel⟩
theorem ok_neighbours {P : Program} {w : World} {K : PySem.W.Frag} {mg : Str → Option Value} {base : Heap} {a : Addr} {fd : FuncData} (T : Txt K w.params mg) (F : Fun K "neighbours" "neighbours" s_neighbours a fd) (B : BaseD K mg base) (C_need_web : Cal P w K mg base 6 "need_web" P_need_web f_need_web) (C_need_seat : Cal P w K mg base 6 "need_seat" P_need_seat f_need_seat) (C_neighbours_by : Cal P w K mg base 6 "neighbours_by" P_neighbours_by f_neighbours_by) : FnG P w K mg base 7 a fd P_neighbours (spM K mg 2 f_neighbours) := by
  refine Fun.dl (N := N_neighbours) F sc_neighbours fun cdv A outer s H E W as hr => ?_
  have Sc := sc_neighbours
  have hu := hr.rm.units
  have hu65 := units65 hr.rm
  have hu1 := units1 hr.rm
  exact (qs_cons (qs_expr (px_callC C_need_web hr (by rfl) rfl rfl (takes_of rfl rfl rfl rfl) (px_cons (pd_var 0) px_nil)))
    (qs_cons (qs_expr (px_callC C_need_seat hr (by rfl) rfl rfl (takes_of rfl rfl rfl rfl) (px_cons (pd_var 0) (px_cons (pd_var 1) px_nil))))
    (qs_one (qs_ret (px_callC C_neighbours_by hr (by rfl) rfl rfl (takes_of rfl rfl rfl rfl) (px_cons (pd_var 0) (px_cons (pd_var 1) px_nil)))))))
/-! _law_beside -/
abbrev s__law_beside : Stmt := topS 30
abbrev N__law_beside : List Str := ["web", "seat", "a", "b"]
abbrev P__law_beside : List Str := ["web", "seat"]
noncomputable def q_law_beside_t1 : DM Bool := (eTest (eOp (opIn false) (eVar 1) (eTup (lCons (eVar 2) (lCons (eVar 3) lNil)))))
noncomputable def q_law_beside_e2 : DM D := (eOp opSub (eOp opAdd (eVar 2) (eVar 3)) (eVar 1))
noncomputable def m__law_beside : DM Fl := (sRet (eLc [2, 3] (iSeq (eOp opIx (eVar 0) (eK (.int 1)))) (tgTup (tgCons (tgName 2) (tgCons (tgName 3) tgNil))) q_law_beside_t1 q_law_beside_e2))
noncomputable def f__law_beside : DF := runF 4 m__law_beside
theorem sc__law_beside : FnScope N__law_beside P__law_beside (defScope s__law_beside) := ⟨rfl, rfl, rfl, by decide +kernel, rfl, by decide +kernel, by decide +kernel⟩
theorem ok__law_beside {P : Program} {w : World} {K : PySem.W.Frag} {mg : Str → Option Value} {base : Heap} {a : Addr} {fd : FuncData} (T : Txt K w.params mg) (F : Fun K "_law_beside" "_law_beside" s__law_beside a fd) (B : BaseD K mg base) : FnG P w K mg base 1 a fd P__law_beside (spM K mg 2 f__law_beside) := by
  refine Fun.dl (N := N__law_beside) F sc__law_beside fun cdv A outer s H E W as hr => ?_
  have Sc := sc__law_beside
  have hu := hr.rm.units
  have hu65 := units65 hr.rm
  have hu1 := units1 hr.rm
  exact (qs_one (qs_ret (px_lc (own := [("a", 2), ("b", 3)]) rfl rfl rfl Sc.nd (ix_seq rfl (px_ix rfl (pd_var 0) pd_int)) (by exact blkOk_by (N := N__law_beside) (sc := defScope s__law_beside) (own := [("a", 2), ("b", 3)]) (by first | decide +kernel | kernel_rfl | rfl)) (fun s1 H1 C1 cl1 fp1 => (pg_tup rfl (pgs_cons (pg_name (i := 2) Sc.nd rfl (by first | exact Or.inl rfl | exact Or.inr rfl)) (pgs_cons (pg_name (i := 3) Sc.nd rfl (by first | exact Or.inl rfl | exact Or.inr rfl)) pgs_nil)))) (tr_tup (tr_cons (tr_name) (tr_cons (tr_name) tr_nil)) (tgCons_len (tgCons_len tgNil_len))) (fun s1 H1 C1 cl1 fp1 g1 hK1 hM1 => (ptsx_one (pt_cmpX (ox_in hK1 hu65) (pd_var 1) (px_tup (px_cons (pd_var 2) (px_cons (pd_var 3) px_nil))) (by rfl)))) (fun s1 H1 C1 cl1 fp1 g1 hK1 hM1 => (px_op ox_sub (px_op (ox_add hK1) (pd_var 2) (pd_var 3)) (pd_var 1))))))
/-! _law_bent_web -/
abbrev s__law_bent_web : Stmt := topS 31
abbrev N__law_bent_web : List Str := ["pool", "web", "many", "ties", "some"]
abbrev P__law_bent_web : List Str := ["pool", "web"]
noncomputable def m__law_bent_web : DM Fl := (sSeq (sAsg (tgSq (tgCons (tgName 2) (tgCons (tgName 3) tgNil))) (eVar 1))
    (sSeq (sSet 4 (eLst (lCons (eK .non) (lCons (eVar 2) (lCons (eTup lNil) (lCons (eTup (lCons (eVar 2) lNil)) (lCons (eLst (lCons (eVar 2) (lCons (eVar 3) lNil))) (lCons (eTup (lCons (eVar 2) (lCons (eCall fList (lCons (eVar 3) lNil)) lNil))) (lCons (eTup (lCons (eVar 2) (lCons (eVar 3) (lCons (eK (.int 0)) lNil)))) (lCons (eTup (lCons (eK (.int 0)) (lCons (eTup lNil) lNil))) (lCons (eTup (lCons (eK (.int 13)) (lCons (eTup lNil) lNil))) (lCons (eTup (lCons (eK (.bl true)) (lCons (eTup lNil) lNil))) lNil))))))))))))
    (sSeq (sSet 4 (eOp opAdd (eVar 4) (eLst (lCons (eTup (lCons (eVar 2) (lCons (eOp opAdd (eVar 3) (eTup (lCons (eTup (lCons (eOp opSub (eVar 2) (eK (.int 1))) (lCons (eVar 2) lNil))) lNil))) lNil))) (lCons (eTup (lCons (eVar 2) (lCons (eOp opAdd (eVar 3) (eTup (lCons (eTup (lCons (eK (.int 0)) (lCons (eK (.int 0)) lNil))) lNil))) lNil))) (lCons (eTup (lCons (eVar 2) (lCons (eTup (lCons (eTup (lCons (eK (.int 1)) (lCons (eK (.int 0)) lNil))) lNil)) lNil))) (lCons (eTup (lCons (eUn uNeg (eK (.int 1))) (lCons (eVar 3) lNil))) lNil)))))))
    (sSeq (sSet 4 (eOp opAdd (eVar 4) (eLst (lCons (eTup (lCons (eVar 2) (lCons (eOp opAdd (eVar 3) (eTup (lCons (eK .non) lNil))) lNil))) (lCons (eTup (lCons (eVar 2) (lCons (eOp opAdd (eVar 3) (eTup (lCons (eLst (lCons (eK (.int 0)) (lCons (eK (.int 1)) lNil))) lNil))) lNil))) (lCons (eTup (lCons (eK (.str "2")) (lCons (eTup lNil) lNil))) (lCons (eTup (lCons (eVar 2) (lCons (eTup (lCons (eTup (lCons (eK (.int 0)) (lCons (eK (.int 1)) (lCons (eK (.int 2)) lNil)))) lNil)) lNil))) (lCons (eK (.pd (.dict []))) (lCons (eK (.str "1 -")) lNil)))))))))
    (sSeq (sSet 4 (eOp opAdd (eVar 4) (eLst (lCons (eTup (lCons (eVar 2) (lCons (eTup (lCons (eTup (lCons (eK (.bl false)) (lCons (eK (.int 1)) lNil))) lNil)) lNil))) (lCons (eTup (lCons (eVar 2) (lCons (eTup (lCons (eTup (lCons (eK (.int 0)) (lCons (eK (.bl true)) lNil))) lNil)) lNil))) (lCons (eTup (lCons (eVar 2) (lCons (eTup (lCons (eTup (lCons (eK (.int 0)) lNil)) lNil)) lNil))) (lCons (eTup (lCons (eVar 2) (lCons (eOp opAdd (eVar 3) (eTup (lCons (eTup (lCons (eUn uNeg (eK (.int 1))) (lCons (eK (.int 0)) lNil))) lNil))) lNil))) lNil)))))))
    (sSeq (sIf (eTest (eOp (opCmpI fun i j => decide (j < i)) (eCall fLen (lCons (eVar 3) lNil)) (eK (.int 1)))) (sSet 4 (eOp opAdd (eVar 4) (eLst (lCons (eTup (lCons (eVar 2) (lCons (eRevT (eVar 3)) lNil))) (lCons (eTup (lCons (eVar 2) (lCons (eOp opAdd (eSlice (eVar 3) (mRet none) (mBind (eK (.int 1)) asI)) (eVar 3)) lNil))) (lCons (eTup (lCons (eVar 2) (lCons (eOp opAdd (eSlice (eVar 3) (mBind (eK (.int 1)) asI) (mRet none)) (eSlice (eVar 3) (mRet none) (mBind (eK (.int 1)) asI))) lNil))) lNil)))))) sNext)
    (sRet (eOp opIx (eVar 4) (mBind (lCons (eVar 0) (lCons (eCall fLen (lCons (eVar 4) lNil)) lNil)) (callF 2 f__law_take))))))))))
noncomputable def f__law_bent_web : DF := runF 5 m__law_bent_web
theorem sc__law_bent_web : FnScope N__law_bent_web P__law_bent_web (defScope s__law_bent_web) := ⟨rfl, rfl, rfl, by decide +kernel, rfl, by decide +kernel, by decide +kernel⟩
theorem ok__law_bent_web {P : Program} {w : World} {K : PySem.W.Frag} {mg : Str → Option Value} {base : Heap} {a : Addr} {fd : FuncData} (T : Txt K w.params mg) (F : Fun K "_law_bent_web" "_law_bent_web" s__law_bent_web a fd) (B : BaseD K mg base) (C__law_take : Cal P w K mg base 1 "_law_take" P__law_take f__law_take) : FnG P w K mg base 2 a fd P__law_bent_web (spM K mg 2 f__law_bent_web) := by
  refine Fun.dl (N := N__law_bent_web) F sc__law_bent_web fun cdv A outer s H E W as hr => ?_
  have Sc := sc__law_bent_web
  have hu := hr.rm.units
  have hu65 := units65 hr.rm
  have hu1 := units1 hr.rm
  exact (qs_cons (qs_asg (pd_var 1) (GT.sq rfl rfl (gx_cons (gx_name (i := 2) Sc.nd rfl (by first | exact Or.inl rfl | exact Or.inr rfl)) (gx_cons (gx_name (i := 3) Sc.nd rfl (by first | exact Or.inl rfl | exact Or.inr rfl)) gx_nil)) rfl rfl (tgCons_len (tgCons_len tgNil_len))))
    (qs_cons (qs_set (i := 4) Sc.nd rfl (by first | exact Or.inl rfl | exact Or.inr rfl) (px_lst (px_cons pd_non (px_cons (pd_var 2) (px_cons (px_tup px_nil) (px_cons (px_tup (px_cons (pd_var 2) px_nil)) (px_cons (px_lst (px_cons (pd_var 2) (px_cons (pd_var 3) px_nil))) (px_cons (px_tup (px_cons (pd_var 2) (px_cons (px_callTy (cx_list rfl) (by rfl) T.n_list (by decide +kernel) (px_cons (pd_var 3) px_nil)) px_nil))) (px_cons (px_tup (px_cons (pd_var 2) (px_cons (pd_var 3) (px_cons pd_int px_nil)))) (px_cons (px_tup (px_cons pd_int (px_cons (px_tup px_nil) px_nil))) (px_cons (px_tup (px_cons pd_int (px_cons (px_tup px_nil) px_nil))) (px_cons (px_tup (px_cons pd_bl (px_cons (px_tup px_nil) px_nil))) px_nil))))))))))))
    (qs_cons (qs_set (i := 4) Sc.nd rfl (by first | exact Or.inl rfl | exact Or.inr rfl) (px_op (ox_add rfl) (pd_var 4) (px_lst (px_cons (px_tup (px_cons (pd_var 2) (px_cons (px_op (ox_add rfl) (pd_var 3) (px_tup (px_cons (px_tup (px_cons (px_op ox_sub (pd_var 2) pd_int) (px_cons (pd_var 2) px_nil))) px_nil))) px_nil))) (px_cons (px_tup (px_cons (pd_var 2) (px_cons (px_op (ox_add rfl) (pd_var 3) (px_tup (px_cons (px_tup (px_cons pd_int (px_cons pd_int px_nil))) px_nil))) px_nil))) (px_cons (px_tup (px_cons (pd_var 2) (px_cons (px_tup (px_cons (px_tup (px_cons pd_int (px_cons pd_int px_nil))) px_nil)) px_nil))) (px_cons (px_tup (px_cons (px_neg pd_int) (px_cons (pd_var 3) px_nil))) px_nil)))))))
    (qs_cons (qs_set (i := 4) Sc.nd rfl (by first | exact Or.inl rfl | exact Or.inr rfl) (px_op (ox_add rfl) (pd_var 4) (px_lst (px_cons (px_tup (px_cons (pd_var 2) (px_cons (px_op (ox_add rfl) (pd_var 3) (px_tup (px_cons pd_non px_nil))) px_nil))) (px_cons (px_tup (px_cons (pd_var 2) (px_cons (px_op (ox_add rfl) (pd_var 3) (px_tup (px_cons (px_lst (px_cons pd_int (px_cons pd_int px_nil))) px_nil))) px_nil))) (px_cons (px_tup (px_cons pd_str (px_cons (px_tup px_nil) px_nil))) (px_cons (px_tup (px_cons (pd_var 2) (px_cons (px_tup (px_cons (px_tup (px_cons pd_int (px_cons pd_int (px_cons pd_int px_nil)))) px_nil)) px_nil))) (px_cons px_dict0 (px_cons pd_str px_nil)))))))))
    (qs_cons (qs_set (i := 4) Sc.nd rfl (by first | exact Or.inl rfl | exact Or.inr rfl) (px_op (ox_add rfl) (pd_var 4) (px_lst (px_cons (px_tup (px_cons (pd_var 2) (px_cons (px_tup (px_cons (px_tup (px_cons pd_bl (px_cons pd_int px_nil))) px_nil)) px_nil))) (px_cons (px_tup (px_cons (pd_var 2) (px_cons (px_tup (px_cons (px_tup (px_cons pd_int (px_cons pd_bl px_nil))) px_nil)) px_nil))) (px_cons (px_tup (px_cons (pd_var 2) (px_cons (px_tup (px_cons (px_tup (px_cons pd_int px_nil)) px_nil)) px_nil))) (px_cons (px_tup (px_cons (pd_var 2) (px_cons (px_op (ox_add rfl) (pd_var 3) (px_tup (px_cons (px_tup (px_cons (px_neg pd_int) (px_cons pd_int px_nil))) px_nil))) px_nil))) px_nil)))))))
    (qs_cons (qs_if (pt_cmpX ox_gt (px_callB (cx_len rfl) (by rfl) T.n_len (by decide +kernel) (px_cons (pd_var 3) px_nil)) pd_int (by rfl)) (qs_one (qs_set (i := 4) Sc.nd rfl (by first | exact Or.inl rfl | exact Or.inr rfl) (px_op (ox_add rfl) (pd_var 4) (px_lst (px_cons (px_tup (px_cons (pd_var 2) (px_cons (px_revT rfl (pd_var 3)) px_nil))) (px_cons (px_tup (px_cons (pd_var 2) (px_cons (px_op (ox_add rfl) (px_sliceT rfl (pd_var 3) po_noneX (po_someX pd_int)) (pd_var 3)) px_nil))) (px_cons (px_tup (px_cons (pd_var 2) (px_cons (px_op (ox_add rfl) (px_sliceT rfl (pd_var 3) (po_someX pd_int) po_noneX) (px_sliceT rfl (pd_var 3) po_noneX (po_someX pd_int))) px_nil))) px_nil))))))) qs_nil)
    (qs_one (qs_ret (px_ix rfl (pd_var 4) (px_callC C__law_take hr (by rfl) rfl rfl (takes_of rfl rfl rfl rfl) (px_cons (pd_var 0) (px_cons (px_callB (cx_len rfl) (by rfl) T.n_len (by decide +kernel) (px_cons (pd_var 4) px_nil)) px_nil))))))))))))
/-! _law_caught -/
abbrev s__law_caught : Stmt := topS 32
abbrev N__law_caught : List Str := ["call", "e", "some", "more"]
abbrev P__law_caught : List Str := ["call"]
noncomputable def q_law_caught_s1 : Exn → V → DM Fl := fun e_ v_ => (sSeq (sSet 2 (eLst (lCons (eExIs 1 v_ (isEx [("NoWeb", true), ("NoSeat", false)] e_)) (lCons (eExIs 1 v_ (isEx [("NoWeb", false), ("NoSeat", false)] e_)) (lCons (eExIs 1 v_ (isEx [("NoWeb", false), ("NoSeat", false)] e_)) (lCons (eExIs 1 v_ (isEx [("NoWeb", false), ("NoSeat", false)] e_)) lNil))))))
    (sSeq (sSet 2 (eOp opAdd (eVar 2) (eLst (lCons (eExIs 1 v_ (isEx [("NoWeb", false), ("NoSeat", false)] e_)) (lCons (eExIs 1 v_ (isEx [("NoWeb", false), ("NoSeat", false)] e_)) (lCons (eExIs 1 v_ (isEx [("NoWeb", false), ("NoSeat", true)] e_)) (lCons (eExIs 1 v_ (isEx [("NoWeb", false), ("NoSeat", false)] e_)) lNil)))))))
    (sSeq (sSet 3 (eLst (lCons (eExIs 1 v_ (isEx [("NoWeb", false), ("NoSeat", false)] e_)) (lCons (eExIs 1 v_ (isEx [("NoWeb", false), ("NoSeat", false)] e_)) (lCons (eExIs 1 v_ (isEx [("NoWeb", false), ("NoSeat", false)] e_)) (lCons (eExIs 1 v_ (isEx [("NoWeb", false), ("NoSeat", false)] e_)) lNil))))))
    (sSeq (sIf (bOr (eTest (eOp (opEq true) (eCntB (eVar 2) (lCons (eK (.bl true)) lNil)) (eK (.int 1)))) (bOr (eTest (eOp (opIn false) (eK (.bl true)) (eVar 3))) (eTest (eOp (opEq true) (eExIs 1 v_ (isEx [("NoWeb", true), ("NoSeat", false)] e_)) (eOp (opIn false) (eK (.bl true)) (eSlice (eVar 2) (mRet none) (mBind (eK (.int 6)) asI))))))) (sRet (eLst (lCons (eK (.str "odd")) lNil))) sNext)
    (sSeq (sIf (eTru (eOp opIx (eVar 2) (eK (.int 6)))) (sRet (eLst (lCons (eK (.str "seat")) (lCons (eCall fReprD (lCons (eExF 1 v_ ["NoSeat"] "seat" e_) lNil)) lNil)))) sNext)
    (sSeq (sIf (eTru (eOp opIx (eVar 2) (eK (.int 7)))) (sRet (eLst (lCons (eK (.str "number")) (lCons (eCall fReprD (lCons (eExF 1 v_ [] "number" e_) lNil)) lNil)))) sNext)
    (sRet (eLst (lCons (eOp opIx (eLst (lCons (eK (.str "web")) (lCons (eK (.str "term")) (lCons (eK (.str "plan")) (lCons (eK (.str "plans")) (lCons (eK (.str "words")) (lCons (eK (.str "goes")) lNil))))))) (eIdxL (eVar 2) (lCons (eK (.bl true)) lNil))) lNil)))))))))
noncomputable def m__law_caught (vl_ : V) (R_ : TR) : DM Fl := (sSeq (sTryT [("NoWeb", true || (false || false)), ("NoSeat", false || (true || false))] 1 q_law_caught_s1 (sExpr (eThk 0 vl_ R_)))
    (sRet (eLst (lCons (eK (.str "told")) lNil))))
noncomputable def f__law_caught : DT := fun vl_ R_ => runF 4 (m__law_caught vl_ R_)
theorem sc__law_caught : FnScope N__law_caught P__law_caught (defScope s__law_caught) := ⟨rfl, rfl, rfl, by decide +kernel, rfl, by decide +kernel, by decide +kernel⟩
theorem ok__law_caught {P : Program} {w : World} {K : PySem.W.Frag} {mg : Str → Option Value} {base : Heap} {a : Addr} {fd : FuncData} (T : Txt K w.params mg) (F : Fun K "_law_caught" "_law_caught" s__law_caught a fd) (B : BaseD K mg base) : FnT P w K mg base 1 "_law_caught" a fd "call" N__law_caught (defScope s__law_caught) f__law_caught := by
  refine Fun.dlT (N := N__law_caught) F sc__law_caught rfl (by first | exact Or.inl rfl | exact Or.inr (Or.inl rfl) | exact Or.inr (Or.inr rfl)) fun cdv A outer s H E W vl_ R_ hr hact => ?_
  have Sc := sc__law_caught
  have hu := hr.rm.units
  have hu65 := units65 hr.rm
  have hu1 := units1 hr.rm
  exact (qs_cons (qs_tryT (i := 1) rfl rfl rfl rfl Sc.nd (takes_of rfl rfl rfl rfl) T.t_ComeError_NoSeat_NoNumber T.c_ComeError.ex T.c_NoSeat.ex T.c_NoNumber.ex (by rfl) (by rfl) (by rfl) rfl (by rfl) (fun W_ pn_ xe_ tkB => (qs_one (qs_expr (hact W_ pn_ xe_ _ _ tkB)))) (fun a_ oe_ cls_ dd_ pn2_ g_ e_ hKs_ hms_ hz_ hf_ hx_ => (qs_cons (qs_set (i := 2) Sc.nd rfl (by first | exact Or.inl rfl | exact Or.inr rfl) (px_lst (px_cons (px_exIs (i := 1) hx_ hz_ hf_ hms_ T.k_NoWeb (by rfl) (by rfl) T.n_isinstance rfl (by first | exact Or.inl rfl | exact Or.inr (Or.inl rfl) | exact Or.inr (Or.inr rfl))) (px_cons (px_exIs (i := 1) hx_ hz_ hf_ hms_ T.k_NoTerm (by rfl) (by rfl) T.n_isinstance rfl (by first | exact Or.inl rfl | exact Or.inr (Or.inl rfl) | exact Or.inr (Or.inr rfl))) (px_cons (px_exIs (i := 1) hx_ hz_ hf_ hms_ T.k_NoPlan (by rfl) (by rfl) T.n_isinstance rfl (by first | exact Or.inl rfl | exact Or.inr (Or.inl rfl) | exact Or.inr (Or.inr rfl))) (px_cons (px_exIs (i := 1) hx_ hz_ hf_ hms_ T.k_NoPlans (by rfl) (by rfl) T.n_isinstance rfl (by first | exact Or.inl rfl | exact Or.inr (Or.inl rfl) | exact Or.inr (Or.inr rfl))) px_nil))))))
    (qs_cons (qs_set (i := 2) Sc.nd rfl (by first | exact Or.inl rfl | exact Or.inr rfl) (px_op (ox_add (by exact hKs_.symm)) (pd_var 2) (px_lst (px_cons (px_exIs (i := 1) hx_ hz_ hf_ hms_ T.k_NoWords (by rfl) (by rfl) T.n_isinstance rfl (by first | exact Or.inl rfl | exact Or.inr (Or.inl rfl) | exact Or.inr (Or.inr rfl))) (px_cons (px_exIs (i := 1) hx_ hz_ hf_ hms_ T.k_NoGoes (by rfl) (by rfl) T.n_isinstance rfl (by first | exact Or.inl rfl | exact Or.inr (Or.inl rfl) | exact Or.inr (Or.inr rfl))) (px_cons (px_exIs (i := 1) hx_ hz_ hf_ hms_ T.k_NoSeat (by rfl) (by rfl) T.n_isinstance rfl (by first | exact Or.inl rfl | exact Or.inr (Or.inl rfl) | exact Or.inr (Or.inr rfl))) (px_cons (px_exIs (i := 1) hx_ hz_ hf_ hms_ T.k_NoNumber (by rfl) (by rfl) T.n_isinstance rfl (by first | exact Or.inl rfl | exact Or.inr (Or.inl rfl) | exact Or.inr (Or.inr rfl))) px_nil)))))))
    (qs_cons (qs_set (i := 3) Sc.nd rfl (by first | exact Or.inl rfl | exact Or.inr rfl) (px_lst (px_cons (px_exIs (i := 1) hx_ hz_ hf_ hms_ T.k_NoScene (by rfl) (by rfl) T.n_isinstance rfl (by first | exact Or.inl rfl | exact Or.inr (Or.inl rfl) | exact Or.inr (Or.inr rfl))) (px_cons (px_exIs (i := 1) hx_ hz_ hf_ hms_ T.k_NoDeed (by rfl) (by rfl) T.n_isinstance rfl (by first | exact Or.inl rfl | exact Or.inr (Or.inl rfl) | exact Or.inr (Or.inr rfl))) (px_cons (px_exIs (i := 1) hx_ hz_ hf_ hms_ T.k_NoRun (by rfl) (by rfl) T.n_isinstance rfl (by first | exact Or.inl rfl | exact Or.inr (Or.inl rfl) | exact Or.inr (Or.inr rfl))) (px_cons (px_exIs (i := 1) hx_ hz_ hf_ hms_ T.k_NoTable (by rfl) (by rfl) T.n_isinstance rfl (by first | exact Or.inl rfl | exact Or.inr (Or.inl rfl) | exact Or.inr (Or.inr rfl))) px_nil))))))
    (qs_cons (qs_if (PW.pt (pw_orX (pt_cmpX (ox_ne (by exact hKs_.symm) (by exact hu)) (px_cntB (by exact hKs_.symm) (by exact hu) (pd_var 2) (px_cons pd_bl px_nil)) pd_int (by rfl)) (pw_orX (pt_cmpX (ox_in (by exact hKs_.symm) (by exact hu65)) pd_bl (pd_var 3) (by rfl)) (pw_or1X (pt_cmpX (ox_ne (by exact hKs_.symm) (by exact hu)) (px_exIs (i := 1) hx_ hz_ hf_ hms_ T.k_ComeError (by rfl) (by rfl) T.n_isinstance rfl (by first | exact Or.inl rfl | exact Or.inr (Or.inl rfl) | exact Or.inr (Or.inr rfl))) (px_cmp (ox_in (by exact hKs_.symm) (by exact hu65)) pd_bl (px_sliceT (by exact hKs_.symm) (pd_var 2) po_noneX (po_someX pd_int)) (by rfl)) (by rfl)))))) (qs_one (qs_ret (px_lst (px_cons pd_str px_nil)))) qs_nil)
    (qs_cons (qs_if (pt_tru (by exact hKs_.symm) (px_ix (by exact hKs_.symm) (pd_var 2) pd_int)) (qs_one (qs_ret (px_lst (px_cons pd_str (px_cons (px_callB (cx_reprD (by exact hKs_.symm) (by exact hu) (by exact hr.gd) B.sys) (by rfl) T.n_repr (by decide +kernel) (px_cons (px_exF (i := 1) hx_ hz_ hf_ hms_ T.q_seat rfl (by first | exact Or.inl rfl | exact Or.inr (Or.inl rfl) | exact Or.inr (Or.inr rfl)) (by rfl)) px_nil)) px_nil))))) qs_nil)
    (qs_cons (qs_if (pt_tru (by exact hKs_.symm) (px_ix (by exact hKs_.symm) (pd_var 2) pd_int)) (qs_one (qs_ret (px_lst (px_cons pd_str (px_cons (px_callB (cx_reprD (by exact hKs_.symm) (by exact hu) (by exact hr.gd) B.sys) (by rfl) T.n_repr (by decide +kernel) (px_cons (px_exF (i := 1) hx_ hz_ hf_ hms_ T.q_number rfl (by first | exact Or.inl rfl | exact Or.inr (Or.inl rfl) | exact Or.inr (Or.inr rfl)) (by rfl)) px_nil)) px_nil))))) qs_nil)
    (qs_one (qs_ret (px_lst (px_cons (px_ix (by exact hKs_.symm) (px_lst (px_cons pd_str (px_cons pd_str (px_cons pd_str (px_cons pd_str (px_cons pd_str (px_cons pd_str px_nil))))))) (px_idxL (by exact hKs_.symm) (by exact hu65) (pd_var 2) (px_cons pd_bl px_nil))) px_nil))))))))))))
    (qs_one (qs_ret (px_lst (px_cons pd_str px_nil)))))
/-! law -/
abbrev s_law : Stmt := topS 33
abbrev N_law : List Str := ["script", "k", "pool", "web", "held", "told", "bad", "seat", "lost"]
abbrev P_law : List Str := ["script"]
noncomputable def qlaw_e1 : DM D := (mBind (lCons (eVar 3) (lCons (eVar 7) lNil)) (callF 2 f_neighbours))
noncomputable def qlaw_e2 : DM D := (eCall fTuple (lCons (mBind (lCons (eVar 3) (lCons (eVar 7) lNil)) (callF 2 f__law_beside)) lNil))
noncomputable def qlaw_l3 : DM D := (mBind (lCons (eVar 6) (lCons (eVar 8) lNil)) (callF 2 f_neighbours))
noncomputable def qlaw_l4 : DM D := (mBind (lCons (eVar 6) (lCons (eVar 7) lNil)) (callF 2 f_neighbours))
noncomputable def qlaw_l5 : DM D := (mBind (lCons (eVar 3) (lCons (eVar 8) lNil)) (callF 2 f_neighbours))
noncomputable def qlaw_b6 : DM Fl := (sSeq (sSet 2 (mBind (lCons (eVar 0) (lCons (eVar 1) lNil)) (callFM 2 f__law_pool)))
    (sSeq (sSet 3 (mBind (lCons (eVar 2) (lCons (eK (.int 12)) lNil)) (callF 2 f__law_any_web)))
    (sSeq (sSet 4 (eCall fReprD (lCons (eVar 3) lNil)))
    (sSeq (sSet 5 (mBind (lcAll [7] (iRange1 (lCons (eOp opIx (eVar 3) (eK (.int 0))) lNil)) (tgName 7) (mRet true) qlaw_e1) mkF))
    (sSeq (sIf (eTest (eOp (opEq true) (eCall fReprD (lCons (eVar 5) lNil)) (eCall fReprD (lCons (eLc [7] (iRange1 (lCons (eOp opIx (eVar 3) (eK (.int 0))) lNil)) (tgName 7) (mRet true) qlaw_e2) lNil)))) (sRet (eK (.bl false))) sNext)
    (sSeq (sSet 6 (mBind (lCons (eVar 2) (lCons (eVar 3) lNil)) (callF 2 f__law_bent_web)))
    (sSeq (sIf (eTest (eOp (opEq true) (eLst (lCons (mBind (lCons (eVar 3) lNil) (callF 1 f_is_web)) (lCons (mBind (lCons (eVar 6) lNil) (callF 1 f_is_web)) (lCons (mBind (lCons (eVar 3) lNil) (callF 1 f_is_web)) (lCons (mBind (lCons (eTup (lCons (eK (.int 12)) (lCons (eTup lNil) lNil))) lNil) (callF 1 f_is_web)) lNil))))) (eLst (lCons (eK (.bl true)) (lCons (eK (.bl false)) (lCons (eK (.bl true)) (lCons (eK (.bl true)) lNil))))))) (sRet (eK (.bl false))) sNext)
    (sSeq (sSet 7 (mBind (lCons (eVar 2) (lCons (eOp opIx (eVar 3) (eK (.int 0))) lNil)) (callF 2 f__law_take)))
    (sSeq (sSet 8 (eOp opIx (eLst (lCons (eUn uNeg (eK (.int 1))) (lCons (eOp opIx (eVar 3) (eK (.int 0))) (lCons (eK .non) (lCons (eK (.bl true)) (lCons (eK (.str "0")) (lCons (eTup (lCons (eVar 7) lNil)) (lCons (eLst lNil) (lCons (eOp opPow (eK (.int 10)) (eK (.int 39))) (lCons (eK (.bl false)) lNil)))))))))) (mBind (lCons (eVar 2) (lCons (eK (.int 9)) lNil)) (callF 2 f__law_take))))
    (sSeq (sIf (eTest (eOp (opEq true) (eLam f__law_caught qlaw_l3) (eLst (lCons (eK (.str "web")) lNil)))) (sRet (eK (.bl false))) sNext)
    (sSeq (sIf (eTest (eOp (opEq true) (eLam f__law_caught qlaw_l4) (eLst (lCons (eK (.str "web")) lNil)))) (sRet (eK (.bl false))) sNext)
    (sSeq (sIf (eTest (eOp (opEq true) (eLam f__law_caught qlaw_l5) (eLst (lCons (eK (.str "seat")) (lCons (eCall fReprD (lCons (eVar 8) lNil)) lNil))))) (sRet (eK (.bl false))) sNext)
    (sIf (bOr (eTest (eOp (opEq true) (eCall fReprD (lCons (mBind (lCons (eVar 3) (lCons (eVar 7) lNil)) (callF 2 f_neighbours)) lNil)) (eCall fReprD (lCons (eOp opIx (eVar 5) (eVar 7)) lNil)))) (eTest (eOp (opEq true) (eCall fReprD (lCons (eVar 3) lNil)) (eVar 4)))) (sRet (eK (.bl false))) sNext)))))))))))))
noncomputable def m_law : DM Fl := (sSeq (sFor [1, 2, 3, 4, 5, 6, 7, 8] (iRange1 (lCons (eCall fMax2 (lCons (eK (.int 1)) (lCons (eCall fMin2 (lCons (eK (.int 12)) (lCons (eCall fLen (lCons (eVar 0) lNil)) lNil))) lNil))) lNil)) (tgName 1) qlaw_b6)
    (sRet (eOp (opEq false) (eK (.int 12)) (eK (.int 12)))))
noncomputable def f_law : DF := runF 9 m_law
theorem sc_law : FnScope N_law P_law (defScope s_law) := ⟨rfl, rfl, rfl, by decide +kernel, rfl, by decide +kernel, by decide +kernel⟩
theorem ok_law {P : Program} {w : World} {K : PySem.W.Frag} {mg : Str → Option Value} {base : Heap} {a : Addr} {fd : FuncData} (T : Txt K w.params mg) (F : Fun K "law" "law" s_law a fd) (B : BaseD K mg base) (t : LamT K "law" a) (C__law_pool : Cal P w K mg base 9 "_law_pool" P__law_pool f__law_pool) (C__law_any_web : Cal P w K mg base 9 "_law_any_web" P__law_any_web f__law_any_web) (C_neighbours : Cal P w K mg base 9 "neighbours" P_neighbours f_neighbours) (C__law_beside : Cal P w K mg base 9 "_law_beside" P__law_beside f__law_beside) (C__law_bent_web : Cal P w K mg base 9 "_law_bent_web" P__law_bent_web f__law_bent_web) (C_is_web : Cal P w K mg base 9 "is_web" P_is_web f_is_web) (C__law_take : Cal P w K mg base 9 "_law_take" P__law_take f__law_take) (C__law_caught : CalT P w K mg base 9 "_law_caught" "call" N__law_caught (defScope s__law_caught) f__law_caught) (D_neighbours : Cal P w K mg base 7 "neighbours" P_neighbours f_neighbours) : FnG P w K mg base 10 a fd P_law (spM K mg 1 f_law) := by
  refine Fun.dlC (N := N_law) F sc_law B t fun cdv A outer s H E W as hML hr => ?_
  have Sc := sc_law
  have hu := hr.rm.units
  have hu65 := units65 hr.rm
  have hu1 := units1 hr.rm
  exact (qs_cons (qs_for (passes_of rfl) rfl (ix_range1 (by rfl) T.n_range (px_cons (px_callB (cx_max2 rfl) (by rfl) T.n_max (by decide +kernel) (px_cons pd_int (px_cons (px_callB (cx_min2 rfl) (by rfl) T.n_min (by decide +kernel) (px_cons pd_int (px_cons (px_callB (cx_len rfl) (by rfl) T.n_len (by decide +kernel) (px_cons (pd_var 0) px_nil)) px_nil))) px_nil))) px_nil)) (gx_name (i := 1) Sc.nd rfl (by first | exact Or.inl rfl | exact Or.inr rfl)) (qs_cons (qs_set (i := 2) Sc.nd rfl (by first | exact Or.inl rfl | exact Or.inr rfl) (px_callCM C__law_pool hr (by rfl) rfl rfl (takes_of rfl rfl rfl rfl) (px_cons (pd_var 0) (px_cons (pd_var 1) px_nil))))
    (qs_cons (qs_set (i := 3) Sc.nd rfl (by first | exact Or.inl rfl | exact Or.inr rfl) (px_callC C__law_any_web hr (by rfl) rfl rfl (takes_of rfl rfl rfl rfl) (px_cons (pd_var 2) (px_cons pd_int px_nil))))
    (qs_cons (qs_set (i := 4) Sc.nd rfl (by first | exact Or.inl rfl | exact Or.inr rfl) (px_callB (cx_reprD rfl hu hr.gd B.sys) (by rfl) T.n_repr (by decide +kernel) (px_cons (pd_var 3) px_nil)))
    (qs_cons (qs_setLcG (own := [("seat", 7)]) (i := 5) (mk := mkF) (by first | exact .inl rfl | exact .inr rfl) rfl rfl rfl Sc.nd rfl rfl (by rfl) (ix_range1 (by rfl) T.n_range (px_cons (px_ix rfl (pd_var 3) pd_int) px_nil)) (by exact blkOk_by (N := N_law) (sc := defScope s_law) (own := [("seat", 7)]) (by first | decide +kernel | kernel_rfl | rfl)) (fun s1 H1 C1 cl1 fp1 => (pg_name (i := 7) Sc.nd rfl (by first | exact Or.inl rfl | exact Or.inr rfl))) (tr_name) (fun s1 H1 C1 cl1 fp1 g1 hK1 hM1 => ptsx_nil) (fun s1 H1 C1 cl1 fp1 g1 hK1 hM1 => (px_callC C_neighbours hr (by rfl) hK1 hM1 takes0 (px_cons (pd_var 3) (px_cons (pd_var 7) px_nil)))))
    (qs_cons (qs_if (pt_cmpX (ox_ne rfl hu) (px_callB (cx_reprD rfl hu hr.gd B.sys) (by rfl) T.n_repr (by decide +kernel) (px_cons (pd_var 5) px_nil)) (px_callB (cx_reprD rfl hu hr.gd B.sys) (by rfl) T.n_repr (by decide +kernel) (px_cons (px_lc (own := [("seat", 7)]) rfl rfl rfl Sc.nd (ix_range1 (by rfl) T.n_range (px_cons (px_ix rfl (pd_var 3) pd_int) px_nil)) (by exact blkOk_by (N := N_law) (sc := defScope s_law) (own := [("seat", 7)]) (by first | decide +kernel | kernel_rfl | rfl)) (fun s1 H1 C1 cl1 fp1 => (pg_name (i := 7) Sc.nd rfl (by first | exact Or.inl rfl | exact Or.inr rfl))) (tr_name) (fun s1 H1 C1 cl1 fp1 g1 hK1 hM1 => ptsx_nil) (fun s1 H1 C1 cl1 fp1 g1 hK1 hM1 => (px_callTy (cx_tuple hK1) (by rfl) T.n_tuple (by decide +kernel) (px_cons (px_callC C__law_beside hr (by rfl) hK1 hM1 takes0 (px_cons (pd_var 3) (px_cons (pd_var 7) px_nil))) px_nil)))) px_nil)) (by rfl)) (qs_one (qs_ret pd_bl)) qs_nil)
    (qs_cons (qs_set (i := 6) Sc.nd rfl (by first | exact Or.inl rfl | exact Or.inr rfl) (px_callC C__law_bent_web hr (by rfl) rfl rfl (takes_of rfl rfl rfl rfl) (px_cons (pd_var 2) (px_cons (pd_var 3) px_nil))))
    (qs_cons (qs_if (pt_cmpX (ox_ne rfl hu) (px_lst (px_cons (px_callC C_is_web hr (by rfl) rfl rfl (takes_of rfl rfl rfl rfl) (px_cons (pd_var 3) px_nil)) (px_cons (px_callC C_is_web hr (by rfl) rfl rfl (takes_of rfl rfl rfl rfl) (px_cons (pd_var 6) px_nil)) (px_cons (px_callC C_is_web hr (by rfl) rfl rfl (takes_of rfl rfl rfl rfl) (px_cons (pd_var 3) px_nil)) (px_cons (px_callC C_is_web hr (by rfl) rfl rfl (takes_of rfl rfl rfl rfl) (px_cons (px_tup (px_cons pd_int (px_cons (px_tup px_nil) px_nil))) px_nil)) px_nil))))) (px_lst (px_cons pd_bl (px_cons pd_bl (px_cons pd_bl (px_cons pd_bl px_nil))))) (by rfl)) (qs_one (qs_ret pd_bl)) qs_nil)
    (qs_cons (qs_set (i := 7) Sc.nd rfl (by first | exact Or.inl rfl | exact Or.inr rfl) (px_callC C__law_take hr (by rfl) rfl rfl (takes_of rfl rfl rfl rfl) (px_cons (pd_var 2) (px_cons (px_ix rfl (pd_var 3) pd_int) px_nil))))
    (qs_cons (qs_set (i := 8) Sc.nd rfl (by first | exact Or.inl rfl | exact Or.inr rfl) (px_ix rfl (px_lst (px_cons (px_neg pd_int) (px_cons (px_ix rfl (pd_var 3) pd_int) (px_cons pd_non (px_cons pd_bl (px_cons pd_str (px_cons (px_tup (px_cons (pd_var 7) px_nil)) (px_cons (px_lst px_nil) (px_cons (px_op ox_pow pd_int pd_int) (px_cons pd_bl px_nil)))))))))) (px_callC C__law_take hr (by rfl) rfl rfl (takes_of rfl rfl rfl rfl) (px_cons (pd_var 2) (px_cons pd_int px_nil)))))
    (qs_cons (qs_if (pt_cmpX (ox_ne rfl hu) (px_lam C__law_caught hML hr (by rfl) rfl rfl (takes_of rfl rfl rfl rfl) (LamX.lamS_by (by first | rfl | decide +kernel)) rfl (fun _ _ _ _ _ => rfl) (fun f_ c'_ A_ outer_ s_ H_ E_ gm_ hKl_ hml_ hrl_ tkl_ => (px_callC D_neighbours hrl_ (by rfl) (by exact hKl_.symm) (by exact hml_.symm) (by exact tkl_) (px_cons (pd_var 6) (px_cons (pd_var 8) px_nil))))) (px_lst (px_cons pd_str px_nil)) (by rfl)) (qs_one (qs_ret pd_bl)) qs_nil)
    (qs_cons (qs_if (pt_cmpX (ox_ne rfl hu) (px_lam C__law_caught hML hr (by rfl) rfl rfl (takes_of rfl rfl rfl rfl) (LamX.lamS_by (by first | rfl | decide +kernel)) rfl (fun _ _ _ _ _ => rfl) (fun f_ c'_ A_ outer_ s_ H_ E_ gm_ hKl_ hml_ hrl_ tkl_ => (px_callC D_neighbours hrl_ (by rfl) (by exact hKl_.symm) (by exact hml_.symm) (by exact tkl_) (px_cons (pd_var 6) (px_cons (pd_var 7) px_nil))))) (px_lst (px_cons pd_str px_nil)) (by rfl)) (qs_one (qs_ret pd_bl)) qs_nil)
    (qs_cons (qs_if (pt_cmpX (ox_ne rfl hu) (px_lam C__law_caught hML hr (by rfl) rfl rfl (takes_of rfl rfl rfl rfl) (LamX.lamS_by (by first | rfl | decide +kernel)) rfl (fun _ _ _ _ _ => rfl) (fun f_ c'_ A_ outer_ s_ H_ E_ gm_ hKl_ hml_ hrl_ tkl_ => (px_callC D_neighbours hrl_ (by rfl) (by exact hKl_.symm) (by exact hml_.symm) (by exact tkl_) (px_cons (pd_var 3) (px_cons (pd_var 8) px_nil))))) (px_lst (px_cons pd_str (px_cons (px_callB (cx_reprD rfl hu hr.gd B.sys) (by rfl) T.n_repr (by decide +kernel) (px_cons (pd_var 8) px_nil)) px_nil))) (by rfl)) (qs_one (qs_ret pd_bl)) qs_nil)
    (qs_one (qs_if (PW.pt (pw_orX (pt_cmpX (ox_ne rfl hu) (px_callB (cx_reprD rfl hu hr.gd B.sys) (by rfl) T.n_repr (by decide +kernel) (px_cons (px_callC C_neighbours hr (by rfl) rfl rfl (takes_of rfl rfl rfl rfl) (px_cons (pd_var 3) (px_cons (pd_var 7) px_nil))) px_nil)) (px_callB (cx_reprD rfl hu hr.gd B.sys) (by rfl) T.n_repr (by decide +kernel) (px_cons (px_ix rfl (pd_var 5) (pd_var 7)) px_nil)) (by rfl)) (pw_or1X (pt_cmpX (ox_ne rfl hu) (px_callB (cx_reprD rfl hu hr.gd B.sys) (by rfl) T.n_repr (by decide +kernel) (px_cons (pd_var 3) px_nil)) (pd_var 4) (by rfl))))) (qs_one (qs_ret pd_bl)) qs_nil)))))))))))))))
    (qs_one (qs_ret (px_cmp (ox_eq rfl hu) (pd_globI (by rfl) T.c_MOST_SEATS) pd_int (by rfl)))))
/-! what the top has written, the head -/
section
variable {w : World} {K : PySem.W.Frag} {h : Heap} {mg : Str → Option Value}
structure Top (K : PySem.W.Frag) (P : Params) (mg : Str → Option Value) (a0 a1 a2 a3 a4 a5 a6 a7 a8 a9 a10 a11 a12 a13 a14 a15 a16 : Addr) : Prop where
  txt : Txt K P mg
  m0 : mg "_law_pool" = some (.ref a0)
  u0 : ∃ fd, Fun K "_law_pool" "_law_pool" s__law_pool a0 fd
  m1 : mg "_law_take" = some (.ref a1)
  u1 : ∃ fd, Fun K "_law_take" "_law_take" s__law_take a1 fd
  m2 : mg "_law_any_web" = some (.ref a2)
  u2 : ∃ fd, Fun K "_law_any_web" "_law_any_web" s__law_any_web a2 fd
  m3 : mg "is_whole" = some (.ref a3)
  u3 : ∃ fd, Fun K "is_whole" "is_whole" s_is_whole a3 fd
  m4 : mg "is_below" = some (.ref a4)
  u4 : ∃ fd, Fun K "is_below" "is_below" s_is_below a4 fd
  m5 : mg "are_below" = some (.ref a5)
  u5 : ∃ fd, Fun K "are_below" "are_below" s_are_below a5 fd
  m6 : mg "is_tie" = some (.ref a6)
  u6 : ∃ fd, Fun K "is_tie" "is_tie" s_is_tie a6 fd
  m7 : mg "are_rising" = some (.ref a7)
  u7 : ∃ fd, Fun K "are_rising" "are_rising" s_are_rising a7 fd
  m8 : mg "is_web" = some (.ref a8)
  u8 : ∃ fd, Fun K "is_web" "is_web" s_is_web a8 fd
  m9 : mg "need_web" = some (.ref a9)
  u9 : ∃ fd, Fun K "need_web" "need_web" s_need_web a9 fd
  m10 : mg "need_seat" = some (.ref a10)
  u10 : ∃ fd, Fun K "need_seat" "need_seat" s_need_seat a10 fd
  m11 : mg "neighbours_by" = some (.ref a11)
  u11 : ∃ fd, Fun K "neighbours_by" "neighbours_by" s_neighbours_by a11 fd
  m12 : mg "neighbours" = some (.ref a12)
  u12 : ∃ fd, Fun K "neighbours" "neighbours" s_neighbours a12 fd
  m13 : mg "_law_beside" = some (.ref a13)
  u13 : ∃ fd, Fun K "_law_beside" "_law_beside" s__law_beside a13 fd
  m14 : mg "_law_bent_web" = some (.ref a14)
  u14 : ∃ fd, Fun K "_law_bent_web" "_law_bent_web" s__law_bent_web a14 fd
  m15 : mg "_law_caught" = some (.ref a15)
  u15 : ∃ fd, Fun K "_law_caught" "_law_caught" s__law_caught a15 fd
  m16 : mg "law" = some (.ref a16)
  u16 : ∃ fd, Fun K "law" "law" s_law a16 fd
  t16 : LamT K "law" a16
theorem top_mk {P : Params} {a0 a1 a2 a3 a4 a5 a6 a7 a8 a9 a10 a11 a12 a13 a14 a15 a16 : Addr} (X : K.In h) (G : h.Ns mainGlobals mg) {od0 an0 od1 an1 od2 an2 od3 an3 od4 an4 od5 an5 od6 an6 od7 an7 od8 an8 od9 an9 od10 an10 od11 an11 od12 an12 od13 an13 od14 an14 od15 an15 od16 an16 : Option Addr} {sl0 sl1 sl2 sl3 sl4 sl5 sl6 sl7 sl8 sl9 sl10 sl11 sl12 sl13 sl14 sl15 sl16 : Array (Option Value)} {oc0 kV0 dc0 pm0 cd0 ct0 oc1 kV1 dc1 pm1 cd1 ct1 oc2 kV2 dc2 pm2 cd2 ct2 oc3 kV3 dc3 pm3 cd3 ct3 oc4 kV4 dc4 pm4 cd4 ct4 oc5 kV5 dc5 pm5 cd5 ct5 oc6 kV6 dc6 pm6 cd6 ct6 oc7 kV7 dc7 pm7 cd7 ct7 oc8 kV8 dc8 pm8 cd8 ct8 oc9 kV9 dc9 pm9 cd9 ct9 oc10 kV10 dc10 pm10 cd10 ct10 oc11 kV11 dc11 pm11 cd11 ct11 oc12 kV12 dc12 pm12 cd12 ct12 oc13 kV13 dc13 pm13 cd13 ct13 oc14 kV14 dc14 pm14 cd14 ct14 oc15 kV15 dc15 pm15 cd15 ct15 oc16 kV16 dc16 pm16 cd16 ct16 : Value} {ty_MOST_SEATS : Tok} {ac_ComeError : Addr} {ac_NoDeed : Addr} {ac_NoGoes : Addr} {ac_NoNumber : Addr} {ac_NoPlan : Addr} {ac_NoPlans : Addr} {ac_NoRun : Addr} {ac_NoScene : Addr} {ac_NoSeat : Addr} {ac_NoTable : Addr} {ac_NoTerm : Addr} {ac_NoWeb : Addr} {ac_NoWords : Addr} {af_NoSeat : Addr} {odX_NoSeat anX_NoSeat : Option Addr} {slX_NoSeat : Array (Option Value)} {ocX_NoSeat kVX_NoSeat dcX_NoSeat pmX_NoSeat cdX_NoSeat ctX_NoSeat : Value}
    (g0 : PySem.W.nsIn K mainGlobals "_law_pool" = some (some (.ref a0))) (l0 : K.lookup a0 = some ⟨oc0, od0, .func (PySem.W.fnOf "_law_pool" "_law_pool" (defArgs s__law_pool) (defBody s__law_pool) (defScope s__law_pool) .none kV0 dc0 pm0 an0 cd0 ct0), sl0⟩) (c0 : PySem.W.codeIn K cd0 "_law_pool" = true) (k0 : PySem.W.keepIn K (.ref a0) = true)
    (g1 : PySem.W.nsIn K mainGlobals "_law_take" = some (some (.ref a1))) (l1 : K.lookup a1 = some ⟨oc1, od1, .func (PySem.W.fnOf "_law_take" "_law_take" (defArgs s__law_take) (defBody s__law_take) (defScope s__law_take) .none kV1 dc1 pm1 an1 cd1 ct1), sl1⟩) (c1 : PySem.W.codeIn K cd1 "_law_take" = true) (k1 : PySem.W.keepIn K (.ref a1) = true)
    (g2 : PySem.W.nsIn K mainGlobals "_law_any_web" = some (some (.ref a2))) (l2 : K.lookup a2 = some ⟨oc2, od2, .func (PySem.W.fnOf "_law_any_web" "_law_any_web" (defArgs s__law_any_web) (defBody s__law_any_web) (defScope s__law_any_web) .none kV2 dc2 pm2 an2 cd2 ct2), sl2⟩) (c2 : PySem.W.codeIn K cd2 "_law_any_web" = true) (k2 : PySem.W.keepIn K (.ref a2) = true)
    (g3 : PySem.W.nsIn K mainGlobals "is_whole" = some (some (.ref a3))) (l3 : K.lookup a3 = some ⟨oc3, od3, .func (PySem.W.fnOf "is_whole" "is_whole" (defArgs s_is_whole) (defBody s_is_whole) (defScope s_is_whole) .none kV3 dc3 pm3 an3 cd3 ct3), sl3⟩) (c3 : PySem.W.codeIn K cd3 "is_whole" = true) (k3 : PySem.W.keepIn K (.ref a3) = true)
    (g4 : PySem.W.nsIn K mainGlobals "is_below" = some (some (.ref a4))) (l4 : K.lookup a4 = some ⟨oc4, od4, .func (PySem.W.fnOf "is_below" "is_below" (defArgs s_is_below) (defBody s_is_below) (defScope s_is_below) .none kV4 dc4 pm4 an4 cd4 ct4), sl4⟩) (c4 : PySem.W.codeIn K cd4 "is_below" = true) (k4 : PySem.W.keepIn K (.ref a4) = true)
    (g5 : PySem.W.nsIn K mainGlobals "are_below" = some (some (.ref a5))) (l5 : K.lookup a5 = some ⟨oc5, od5, .func (PySem.W.fnOf "are_below" "are_below" (defArgs s_are_below) (defBody s_are_below) (defScope s_are_below) .none kV5 dc5 pm5 an5 cd5 ct5), sl5⟩) (c5 : PySem.W.codeIn K cd5 "are_below" = true) (k5 : PySem.W.keepIn K (.ref a5) = true)
    (g6 : PySem.W.nsIn K mainGlobals "is_tie" = some (some (.ref a6))) (l6 : K.lookup a6 = some ⟨oc6, od6, .func (PySem.W.fnOf "is_tie" "is_tie" (defArgs s_is_tie) (defBody s_is_tie) (defScope s_is_tie) .none kV6 dc6 pm6 an6 cd6 ct6), sl6⟩) (c6 : PySem.W.codeIn K cd6 "is_tie" = true) (k6 : PySem.W.keepIn K (.ref a6) = true)
    (g7 : PySem.W.nsIn K mainGlobals "are_rising" = some (some (.ref a7))) (l7 : K.lookup a7 = some ⟨oc7, od7, .func (PySem.W.fnOf "are_rising" "are_rising" (defArgs s_are_rising) (defBody s_are_rising) (defScope s_are_rising) .none kV7 dc7 pm7 an7 cd7 ct7), sl7⟩) (c7 : PySem.W.codeIn K cd7 "are_rising" = true) (k7 : PySem.W.keepIn K (.ref a7) = true)
    (g8 : PySem.W.nsIn K mainGlobals "is_web" = some (some (.ref a8))) (l8 : K.lookup a8 = some ⟨oc8, od8, .func (PySem.W.fnOf "is_web" "is_web" (defArgs s_is_web) (defBody s_is_web) (defScope s_is_web) .none kV8 dc8 pm8 an8 cd8 ct8), sl8⟩) (c8 : PySem.W.codeIn K cd8 "is_web" = true) (k8 : PySem.W.keepIn K (.ref a8) = true)
    (g9 : PySem.W.nsIn K mainGlobals "need_web" = some (some (.ref a9))) (l9 : K.lookup a9 = some ⟨oc9, od9, .func (PySem.W.fnOf "need_web" "need_web" (defArgs s_need_web) (defBody s_need_web) (defScope s_need_web) .none kV9 dc9 pm9 an9 cd9 ct9), sl9⟩) (c9 : PySem.W.codeIn K cd9 "need_web" = true) (k9 : PySem.W.keepIn K (.ref a9) = true)
    (g10 : PySem.W.nsIn K mainGlobals "need_seat" = some (some (.ref a10))) (l10 : K.lookup a10 = some ⟨oc10, od10, .func (PySem.W.fnOf "need_seat" "need_seat" (defArgs s_need_seat) (defBody s_need_seat) (defScope s_need_seat) .none kV10 dc10 pm10 an10 cd10 ct10), sl10⟩) (c10 : PySem.W.codeIn K cd10 "need_seat" = true) (k10 : PySem.W.keepIn K (.ref a10) = true)
    (g11 : PySem.W.nsIn K mainGlobals "neighbours_by" = some (some (.ref a11))) (l11 : K.lookup a11 = some ⟨oc11, od11, .func (PySem.W.fnOf "neighbours_by" "neighbours_by" (defArgs s_neighbours_by) (defBody s_neighbours_by) (defScope s_neighbours_by) .none kV11 dc11 pm11 an11 cd11 ct11), sl11⟩) (c11 : PySem.W.codeIn K cd11 "neighbours_by" = true) (k11 : PySem.W.keepIn K (.ref a11) = true)
    (g12 : PySem.W.nsIn K mainGlobals "neighbours" = some (some (.ref a12))) (l12 : K.lookup a12 = some ⟨oc12, od12, .func (PySem.W.fnOf "neighbours" "neighbours" (defArgs s_neighbours) (defBody s_neighbours) (defScope s_neighbours) .none kV12 dc12 pm12 an12 cd12 ct12), sl12⟩) (c12 : PySem.W.codeIn K cd12 "neighbours" = true) (k12 : PySem.W.keepIn K (.ref a12) = true)
    (g13 : PySem.W.nsIn K mainGlobals "_law_beside" = some (some (.ref a13))) (l13 : K.lookup a13 = some ⟨oc13, od13, .func (PySem.W.fnOf "_law_beside" "_law_beside" (defArgs s__law_beside) (defBody s__law_beside) (defScope s__law_beside) .none kV13 dc13 pm13 an13 cd13 ct13), sl13⟩) (c13 : PySem.W.codeIn K cd13 "_law_beside" = true) (k13 : PySem.W.keepIn K (.ref a13) = true)
    (g14 : PySem.W.nsIn K mainGlobals "_law_bent_web" = some (some (.ref a14))) (l14 : K.lookup a14 = some ⟨oc14, od14, .func (PySem.W.fnOf "_law_bent_web" "_law_bent_web" (defArgs s__law_bent_web) (defBody s__law_bent_web) (defScope s__law_bent_web) .none kV14 dc14 pm14 an14 cd14 ct14), sl14⟩) (c14 : PySem.W.codeIn K cd14 "_law_bent_web" = true) (k14 : PySem.W.keepIn K (.ref a14) = true)
    (g15 : PySem.W.nsIn K mainGlobals "_law_caught" = some (some (.ref a15))) (l15 : K.lookup a15 = some ⟨oc15, od15, .func (PySem.W.fnOf "_law_caught" "_law_caught" (defArgs s__law_caught) (defBody s__law_caught) (defScope s__law_caught) .none kV15 dc15 pm15 an15 cd15 ct15), sl15⟩) (c15 : PySem.W.codeIn K cd15 "_law_caught" = true) (k15 : PySem.W.keepIn K (.ref a15) = true)
    (g16 : PySem.W.nsIn K mainGlobals "law" = some (some (.ref a16))) (l16 : K.lookup a16 = some ⟨oc16, od16, .func (PySem.W.fnOf "law" "law" (defArgs s_law) (defBody s_law) (defScope s_law) .none kV16 dc16 pm16 an16 cd16 ct16), sl16⟩) (c16 : PySem.W.codeIn K cd16 "law" = true) (k16 : PySem.W.keepIn K (.ref a16) = true)
    (lt16 : (PySem.W.tabIn K "law").isSome = true)
    (z_abs : PySem.W.nsIn K mainGlobals "abs" = some none)
    (z_all : PySem.W.nsIn K mainGlobals "all" = some none)
    (z_bool : PySem.W.nsIn K mainGlobals "bool" = some none)
    (z_int : PySem.W.nsIn K mainGlobals "int" = some none)
    (z_isinstance : PySem.W.nsIn K mainGlobals "isinstance" = some none)
    (z_len : PySem.W.nsIn K mainGlobals "len" = some none)
    (z_list : PySem.W.nsIn K mainGlobals "list" = some none)
    (z_max : PySem.W.nsIn K mainGlobals "max" = some none)
    (z_min : PySem.W.nsIn K mainGlobals "min" = some none)
    (z_range : PySem.W.nsIn K mainGlobals "range" = some none)
    (z_repr : PySem.W.nsIn K mainGlobals "repr" = some none)
    (z_sorted : PySem.W.nsIn K mainGlobals "sorted" = some none)
    (z_tuple : PySem.W.nsIn K mainGlobals "tuple" = some none)
    (z_zip : PySem.W.nsIn K mainGlobals "zip" = some none)
    (y_MOST_SEATS : PySem.W.nsIn K mainGlobals "MOST_SEATS" = some (some (.int 12 ty_MOST_SEATS)))
    (cg_ComeError : PySem.W.nsIn K mainGlobals "ComeError" = some (some (.ref ac_ComeError)))
    (cb_ComeError : PySem.W.subIn K (.ref ac_ComeError) (.type "BaseException") = some true)
    (ct_ComeError : PySem.W.typeIn K (.ref ac_ComeError) = some (.type "type"))
    (ck_ComeError : PySem.W.keepIn K (.ref ac_ComeError) = true)
    (cg_NoDeed : PySem.W.nsIn K mainGlobals "NoDeed" = some (some (.ref ac_NoDeed)))
    (cb_NoDeed : PySem.W.subIn K (.ref ac_NoDeed) (.type "BaseException") = some true)
    (ct_NoDeed : PySem.W.typeIn K (.ref ac_NoDeed) = some (.type "type"))
    (ck_NoDeed : PySem.W.keepIn K (.ref ac_NoDeed) = true)
    (cg_NoGoes : PySem.W.nsIn K mainGlobals "NoGoes" = some (some (.ref ac_NoGoes)))
    (cb_NoGoes : PySem.W.subIn K (.ref ac_NoGoes) (.type "BaseException") = some true)
    (ct_NoGoes : PySem.W.typeIn K (.ref ac_NoGoes) = some (.type "type"))
    (ck_NoGoes : PySem.W.keepIn K (.ref ac_NoGoes) = true)
    (cg_NoNumber : PySem.W.nsIn K mainGlobals "NoNumber" = some (some (.ref ac_NoNumber)))
    (cb_NoNumber : PySem.W.subIn K (.ref ac_NoNumber) (.type "BaseException") = some true)
    (ct_NoNumber : PySem.W.typeIn K (.ref ac_NoNumber) = some (.type "type"))
    (ck_NoNumber : PySem.W.keepIn K (.ref ac_NoNumber) = true)
    (cg_NoPlan : PySem.W.nsIn K mainGlobals "NoPlan" = some (some (.ref ac_NoPlan)))
    (cb_NoPlan : PySem.W.subIn K (.ref ac_NoPlan) (.type "BaseException") = some true)
    (ct_NoPlan : PySem.W.typeIn K (.ref ac_NoPlan) = some (.type "type"))
    (ck_NoPlan : PySem.W.keepIn K (.ref ac_NoPlan) = true)
    (cg_NoPlans : PySem.W.nsIn K mainGlobals "NoPlans" = some (some (.ref ac_NoPlans)))
    (cb_NoPlans : PySem.W.subIn K (.ref ac_NoPlans) (.type "BaseException") = some true)
    (ct_NoPlans : PySem.W.typeIn K (.ref ac_NoPlans) = some (.type "type"))
    (ck_NoPlans : PySem.W.keepIn K (.ref ac_NoPlans) = true)
    (cg_NoRun : PySem.W.nsIn K mainGlobals "NoRun" = some (some (.ref ac_NoRun)))
    (cb_NoRun : PySem.W.subIn K (.ref ac_NoRun) (.type "BaseException") = some true)
    (ct_NoRun : PySem.W.typeIn K (.ref ac_NoRun) = some (.type "type"))
    (ck_NoRun : PySem.W.keepIn K (.ref ac_NoRun) = true)
    (cg_NoScene : PySem.W.nsIn K mainGlobals "NoScene" = some (some (.ref ac_NoScene)))
    (cb_NoScene : PySem.W.subIn K (.ref ac_NoScene) (.type "BaseException") = some true)
    (ct_NoScene : PySem.W.typeIn K (.ref ac_NoScene) = some (.type "type"))
    (ck_NoScene : PySem.W.keepIn K (.ref ac_NoScene) = true)
    (cg_NoSeat : PySem.W.nsIn K mainGlobals "NoSeat" = some (some (.ref ac_NoSeat)))
    (cb_NoSeat : PySem.W.subIn K (.ref ac_NoSeat) (.type "BaseException") = some true)
    (ct_NoSeat : PySem.W.typeIn K (.ref ac_NoSeat) = some (.type "type"))
    (ck_NoSeat : PySem.W.keepIn K (.ref ac_NoSeat) = true)
    (cg_NoTable : PySem.W.nsIn K mainGlobals "NoTable" = some (some (.ref ac_NoTable)))
    (cb_NoTable : PySem.W.subIn K (.ref ac_NoTable) (.type "BaseException") = some true)
    (ct_NoTable : PySem.W.typeIn K (.ref ac_NoTable) = some (.type "type"))
    (ck_NoTable : PySem.W.keepIn K (.ref ac_NoTable) = true)
    (cg_NoTerm : PySem.W.nsIn K mainGlobals "NoTerm" = some (some (.ref ac_NoTerm)))
    (cb_NoTerm : PySem.W.subIn K (.ref ac_NoTerm) (.type "BaseException") = some true)
    (ct_NoTerm : PySem.W.typeIn K (.ref ac_NoTerm) = some (.type "type"))
    (ck_NoTerm : PySem.W.keepIn K (.ref ac_NoTerm) = true)
    (cg_NoWeb : PySem.W.nsIn K mainGlobals "NoWeb" = some (some (.ref ac_NoWeb)))
    (cb_NoWeb : PySem.W.subIn K (.ref ac_NoWeb) (.type "BaseException") = some true)
    (ct_NoWeb : PySem.W.typeIn K (.ref ac_NoWeb) = some (.type "type"))
    (ck_NoWeb : PySem.W.keepIn K (.ref ac_NoWeb) = true)
    (cg_NoWords : PySem.W.nsIn K mainGlobals "NoWords" = some (some (.ref ac_NoWords)))
    (cb_NoWords : PySem.W.subIn K (.ref ac_NoWords) (.type "BaseException") = some true)
    (ct_NoWords : PySem.W.typeIn K (.ref ac_NoWords) = some (.type "type"))
    (ck_NoWords : PySem.W.keepIn K (.ref ac_NoWords) = true)
    (ci_ComeError : PySem.W.isClsIn K ac_ComeError = true)
    (cs_NoWeb_ComeError : PySem.W.subIn K (.ref ac_NoWeb) (.ref ac_ComeError) = some true)
    (cs_NoSeat_ComeError : PySem.W.subIn K (.ref ac_NoSeat) (.ref ac_ComeError) = some false)
    (ci_NoNumber : PySem.W.isClsIn K ac_NoNumber = true)
    (cs_NoWeb_NoNumber : PySem.W.subIn K (.ref ac_NoWeb) (.ref ac_NoNumber) = some false)
    (cs_NoSeat_NoNumber : PySem.W.subIn K (.ref ac_NoSeat) (.ref ac_NoNumber) = some false)
    (ci_NoSeat : PySem.W.isClsIn K ac_NoSeat = true)
    (cs_NoWeb_NoSeat : PySem.W.subIn K (.ref ac_NoWeb) (.ref ac_NoSeat) = some false)
    (cs_NoSeat_NoSeat : PySem.W.subIn K (.ref ac_NoSeat) (.ref ac_NoSeat) = some true)
    (cx_NoWeb : PySem.W.excIn K ac_NoWeb [.type "ValueError", .type "Exception", .type "BaseException", .type "object"] "ValueError.__new__" = true)
    (cz_NoSeat : PySem.W.nsIn K mainGlobals "IndexError" = some none)
    (cq_NoSeat : PySem.W.excInitIn K ac_NoSeat [.type "IndexError", .type "LookupError", .type "Exception", .type "BaseException", .type "object"] "IndexError.__new__" = true)
    (co_NoSeat : PySem.W.excOver K ac_NoSeat [.type "IndexError", .type "LookupError", .type "Exception", .type "BaseException", .type "object"] = true)
    (ca_NoSeat : PySem.W.findIn K (.ref ac_NoSeat) "__setattr__" = some (some (.builtin "object.__setattr__")))
    (cu_NoSeat : PySem.W.takerIn K ac_NoSeat "seat" = some none)
    (ch_NoSeat : PySem.W.hasDictIn K ac_NoSeat = true)
    (cn_NoSeat : PySem.W.findIn K (.ref ac_NoSeat) "__init__" = some (some (.ref af_NoSeat)))
    (cf_NoSeat : PySem.W.typeIn K (.ref af_NoSeat) = some (.type "function"))
    (cv_NoSeat : PySem.W.findCls K (.type "IndexError") (.type "type") "__init__" = some (.val (.builtin "IndexError.__init__")))
    (cl_NoSeat : K.lookup af_NoSeat = some ⟨ocX_NoSeat, odX_NoSeat, .func (PySem.W.fnOf "__init__" "NoSeat.__init__" (defArgs (clsSt 12)) (defBody (clsSt 12)) (defScope (clsSt 12)) .none kVX_NoSeat dcX_NoSeat pmX_NoSeat anX_NoSeat cdX_NoSeat ctX_NoSeat), slX_NoSeat⟩)
    (cc_NoSeat : PySem.W.codeIn K cdX_NoSeat "NoSeat.__init__" = true)
    (cp_NoSeat : PySem.W.keepIn K (.ref af_NoSeat) = true)
    (xn_ : PySem.W.specialIn K (.builtin "object.__class__") "__get__" = some (some (.builtin "getset_descriptor.__get__")))
    (xt_ : PySem.W.takesIn K (.builtin "object.__class__") = some true)
    (x1_NoWeb : (PySem.W.clsIn K ac_NoWeb).isSome = true)
    (x2_NoWeb : PySem.W.findIn K (.ref ac_NoWeb) "__getattribute__" = some (some (.builtin "BaseException.__getattribute__")))
    (x3_NoWeb : PySem.W.findIn K (.ref ac_NoWeb) "__getattr__" = some none)
    (x4_NoWeb : PySem.W.findIn K (.ref ac_NoWeb) "__class__" = some (some (.builtin "object.__class__")))
    (x5_NoWeb : PySem.W.mroIn K ac_NoWeb (.type "object") = some true)
    (xk_NoWeb_ComeError : PySem.W.kitOne K (.ref ac_NoWeb) (.ref ac_ComeError) = some true)
    (xk_NoWeb_NoDeed : PySem.W.kitOne K (.ref ac_NoWeb) (.ref ac_NoDeed) = some false)
    (xk_NoWeb_NoGoes : PySem.W.kitOne K (.ref ac_NoWeb) (.ref ac_NoGoes) = some false)
    (xk_NoWeb_NoNumber : PySem.W.kitOne K (.ref ac_NoWeb) (.ref ac_NoNumber) = some false)
    (xk_NoWeb_NoPlan : PySem.W.kitOne K (.ref ac_NoWeb) (.ref ac_NoPlan) = some false)
    (xk_NoWeb_NoPlans : PySem.W.kitOne K (.ref ac_NoWeb) (.ref ac_NoPlans) = some false)
    (xk_NoWeb_NoRun : PySem.W.kitOne K (.ref ac_NoWeb) (.ref ac_NoRun) = some false)
    (xk_NoWeb_NoScene : PySem.W.kitOne K (.ref ac_NoWeb) (.ref ac_NoScene) = some false)
    (xk_NoWeb_NoSeat : PySem.W.kitOne K (.ref ac_NoWeb) (.ref ac_NoSeat) = some false)
    (xk_NoWeb_NoTable : PySem.W.kitOne K (.ref ac_NoWeb) (.ref ac_NoTable) = some false)
    (xk_NoWeb_NoTerm : PySem.W.kitOne K (.ref ac_NoWeb) (.ref ac_NoTerm) = some false)
    (xk_NoWeb_NoWeb : PySem.W.kitOne K (.ref ac_NoWeb) (.ref ac_NoWeb) = some true)
    (xk_NoWeb_NoWords : PySem.W.kitOne K (.ref ac_NoWeb) (.ref ac_NoWords) = some false)
    (x1_NoSeat : (PySem.W.clsIn K ac_NoSeat).isSome = true)
    (x2_NoSeat : PySem.W.findIn K (.ref ac_NoSeat) "__getattribute__" = some (some (.builtin "BaseException.__getattribute__")))
    (x3_NoSeat : PySem.W.findIn K (.ref ac_NoSeat) "__getattr__" = some none)
    (x4_NoSeat : PySem.W.findIn K (.ref ac_NoSeat) "__class__" = some (some (.builtin "object.__class__")))
    (x5_NoSeat : PySem.W.mroIn K ac_NoSeat (.type "object") = some true)
    (xk_NoSeat_ComeError : PySem.W.kitOne K (.ref ac_NoSeat) (.ref ac_ComeError) = some false)
    (xk_NoSeat_NoDeed : PySem.W.kitOne K (.ref ac_NoSeat) (.ref ac_NoDeed) = some false)
    (xk_NoSeat_NoGoes : PySem.W.kitOne K (.ref ac_NoSeat) (.ref ac_NoGoes) = some false)
    (xk_NoSeat_NoNumber : PySem.W.kitOne K (.ref ac_NoSeat) (.ref ac_NoNumber) = some false)
    (xk_NoSeat_NoPlan : PySem.W.kitOne K (.ref ac_NoSeat) (.ref ac_NoPlan) = some false)
    (xk_NoSeat_NoPlans : PySem.W.kitOne K (.ref ac_NoSeat) (.ref ac_NoPlans) = some false)
    (xk_NoSeat_NoRun : PySem.W.kitOne K (.ref ac_NoSeat) (.ref ac_NoRun) = some false)
    (xk_NoSeat_NoScene : PySem.W.kitOne K (.ref ac_NoSeat) (.ref ac_NoScene) = some false)
    (xk_NoSeat_NoSeat : PySem.W.kitOne K (.ref ac_NoSeat) (.ref ac_NoSeat) = some true)
    (xk_NoSeat_NoTable : PySem.W.kitOne K (.ref ac_NoSeat) (.ref ac_NoTable) = some false)
    (xk_NoSeat_NoTerm : PySem.W.kitOne K (.ref ac_NoSeat) (.ref ac_NoTerm) = some false)
    (xk_NoSeat_NoWeb : PySem.W.kitOne K (.ref ac_NoSeat) (.ref ac_NoWeb) = some false)
    (xk_NoSeat_NoWords : PySem.W.kitOne K (.ref ac_NoSeat) (.ref ac_NoWords) = some false)
    (dgq_NoSeat : PySem.W.findIn K (.ref ac_NoSeat) "__getattribute__" = some (some (.builtin "BaseException.__getattribute__")))
    (dhq_NoSeat : PySem.W.findIn K (.ref ac_NoSeat) "__getattr__" = some none)
    (ddq_NoSeat : PySem.W.hasDictIn K ac_NoSeat = true)
    (dnq_NoSeat_seat : PySem.W.findIn K (.ref ac_NoSeat) "seat" = some none)
    : Top K P mg a0 a1 a2 a3 a4 a5 a6 a7 a8 a9 a10 a11 a12 a13 a14 a15 a16 where
  txt := ⟨PySem.W.mg_none_of X G z_abs, PySem.W.mg_none_of X G z_all, PySem.W.mg_none_of X G z_bool, PySem.W.mg_none_of X G z_int, PySem.W.mg_none_of X G z_isinstance, PySem.W.mg_none_of X G z_len, PySem.W.mg_none_of X G z_list, PySem.W.mg_none_of X G z_max, PySem.W.mg_none_of X G z_min, PySem.W.mg_none_of X G z_range, PySem.W.mg_none_of X G z_repr, PySem.W.mg_none_of X G z_sorted, PySem.W.mg_none_of X G z_tuple, PySem.W.mg_none_of X G z_zip, ⟨_, PySem.W.mg_of X G y_MOST_SEATS⟩, ⟨_, PySem.W.mg_of X G cg_NoWeb, cx_NoWeb, ck_NoWeb, cb_NoWeb, ct_NoWeb⟩, ⟨_, _, ⟨PySem.F.excBase_IndexError, PySem.F.store_IndexError, (by kernel_rfl), (by decide +kernel), (by decide +kernel), (by decide +kernel), ⟨⟨_, _, _, _, _, _, _, _, _, _, _, rfl, fun _ _ _ => ⟨_, rfl⟩⟩, fun _ _ _ => rfl, fun _ _ _ => rfl, fun _ _ _ => rfl, fun _ _ _ _ _ => rfl, fun _ _ _ _ _ => rfl, fun _ _ => rfl, fun _ _ _ _ _ _ _ _ _ => .of_eq rfl, fun _ _ _ => rfl, rfl, rfl, rfl, by decide, by decide, by decide⟩, PySem.W.mg_of X G cg_NoSeat, PySem.W.mg_none_of X G cz_NoSeat, cq_NoSeat, co_NoSeat, ca_NoSeat, cu_NoSeat, ch_NoSeat, cn_NoSeat, cf_NoSeat, ck_NoSeat, cb_NoSeat, ct_NoSeat, cv_NoSeat, ⟨_, fun_mk (st := clsSt 12) cl_NoSeat cc_NoSeat cp_NoSeat⟩⟩⟩, ⟨_, PySem.W.mg_of X G cg_ComeError⟩, ⟨_, PySem.W.mg_of X G cg_NoNumber⟩, ⟨_, PySem.W.mg_of X G cg_NoSeat⟩, (IssD.cons (PySem.W.mg_of X G cg_NoWeb) (PySem.W.mg_of X G cg_ComeError) ⟨x1_NoWeb, x2_NoWeb, x3_NoWeb, cb_NoWeb, x4_NoWeb, xn_, xt_, x5_NoWeb⟩ xk_NoWeb_ComeError (IssD.cons (PySem.W.mg_of X G cg_NoSeat) (PySem.W.mg_of X G cg_ComeError) ⟨x1_NoSeat, x2_NoSeat, x3_NoSeat, cb_NoSeat, x4_NoSeat, xn_, xt_, x5_NoSeat⟩ xk_NoSeat_ComeError IssD.nil)), (IssD.cons (PySem.W.mg_of X G cg_NoWeb) (PySem.W.mg_of X G cg_NoDeed) ⟨x1_NoWeb, x2_NoWeb, x3_NoWeb, cb_NoWeb, x4_NoWeb, xn_, xt_, x5_NoWeb⟩ xk_NoWeb_NoDeed (IssD.cons (PySem.W.mg_of X G cg_NoSeat) (PySem.W.mg_of X G cg_NoDeed) ⟨x1_NoSeat, x2_NoSeat, x3_NoSeat, cb_NoSeat, x4_NoSeat, xn_, xt_, x5_NoSeat⟩ xk_NoSeat_NoDeed IssD.nil)), (IssD.cons (PySem.W.mg_of X G cg_NoWeb) (PySem.W.mg_of X G cg_NoGoes) ⟨x1_NoWeb, x2_NoWeb, x3_NoWeb, cb_NoWeb, x4_NoWeb, xn_, xt_, x5_NoWeb⟩ xk_NoWeb_NoGoes (IssD.cons (PySem.W.mg_of X G cg_NoSeat) (PySem.W.mg_of X G cg_NoGoes) ⟨x1_NoSeat, x2_NoSeat, x3_NoSeat, cb_NoSeat, x4_NoSeat, xn_, xt_, x5_NoSeat⟩ xk_NoSeat_NoGoes IssD.nil)), (IssD.cons (PySem.W.mg_of X G cg_NoWeb) (PySem.W.mg_of X G cg_NoNumber) ⟨x1_NoWeb, x2_NoWeb, x3_NoWeb, cb_NoWeb, x4_NoWeb, xn_, xt_, x5_NoWeb⟩ xk_NoWeb_NoNumber (IssD.cons (PySem.W.mg_of X G cg_NoSeat) (PySem.W.mg_of X G cg_NoNumber) ⟨x1_NoSeat, x2_NoSeat, x3_NoSeat, cb_NoSeat, x4_NoSeat, xn_, xt_, x5_NoSeat⟩ xk_NoSeat_NoNumber IssD.nil)), (IssD.cons (PySem.W.mg_of X G cg_NoWeb) (PySem.W.mg_of X G cg_NoPlan) ⟨x1_NoWeb, x2_NoWeb, x3_NoWeb, cb_NoWeb, x4_NoWeb, xn_, xt_, x5_NoWeb⟩ xk_NoWeb_NoPlan (IssD.cons (PySem.W.mg_of X G cg_NoSeat) (PySem.W.mg_of X G cg_NoPlan) ⟨x1_NoSeat, x2_NoSeat, x3_NoSeat, cb_NoSeat, x4_NoSeat, xn_, xt_, x5_NoSeat⟩ xk_NoSeat_NoPlan IssD.nil)), (IssD.cons (PySem.W.mg_of X G cg_NoWeb) (PySem.W.mg_of X G cg_NoPlans) ⟨x1_NoWeb, x2_NoWeb, x3_NoWeb, cb_NoWeb, x4_NoWeb, xn_, xt_, x5_NoWeb⟩ xk_NoWeb_NoPlans (IssD.cons (PySem.W.mg_of X G cg_NoSeat) (PySem.W.mg_of X G cg_NoPlans) ⟨x1_NoSeat, x2_NoSeat, x3_NoSeat, cb_NoSeat, x4_NoSeat, xn_, xt_, x5_NoSeat⟩ xk_NoSeat_NoPlans IssD.nil)), (IssD.cons (PySem.W.mg_of X G cg_NoWeb) (PySem.W.mg_of X G cg_NoRun) ⟨x1_NoWeb, x2_NoWeb, x3_NoWeb, cb_NoWeb, x4_NoWeb, xn_, xt_, x5_NoWeb⟩ xk_NoWeb_NoRun (IssD.cons (PySem.W.mg_of X G cg_NoSeat) (PySem.W.mg_of X G cg_NoRun) ⟨x1_NoSeat, x2_NoSeat, x3_NoSeat, cb_NoSeat, x4_NoSeat, xn_, xt_, x5_NoSeat⟩ xk_NoSeat_NoRun IssD.nil)), (IssD.cons (PySem.W.mg_of X G cg_NoWeb) (PySem.W.mg_of X G cg_NoScene) ⟨x1_NoWeb, x2_NoWeb, x3_NoWeb, cb_NoWeb, x4_NoWeb, xn_, xt_, x5_NoWeb⟩ xk_NoWeb_NoScene (IssD.cons (PySem.W.mg_of X G cg_NoSeat) (PySem.W.mg_of X G cg_NoScene) ⟨x1_NoSeat, x2_NoSeat, x3_NoSeat, cb_NoSeat, x4_NoSeat, xn_, xt_, x5_NoSeat⟩ xk_NoSeat_NoScene IssD.nil)), (IssD.cons (PySem.W.mg_of X G cg_NoWeb) (PySem.W.mg_of X G cg_NoSeat) ⟨x1_NoWeb, x2_NoWeb, x3_NoWeb, cb_NoWeb, x4_NoWeb, xn_, xt_, x5_NoWeb⟩ xk_NoWeb_NoSeat (IssD.cons (PySem.W.mg_of X G cg_NoSeat) (PySem.W.mg_of X G cg_NoSeat) ⟨x1_NoSeat, x2_NoSeat, x3_NoSeat, cb_NoSeat, x4_NoSeat, xn_, xt_, x5_NoSeat⟩ xk_NoSeat_NoSeat IssD.nil)), (IssD.cons (PySem.W.mg_of X G cg_NoWeb) (PySem.W.mg_of X G cg_NoTable) ⟨x1_NoWeb, x2_NoWeb, x3_NoWeb, cb_NoWeb, x4_NoWeb, xn_, xt_, x5_NoWeb⟩ xk_NoWeb_NoTable (IssD.cons (PySem.W.mg_of X G cg_NoSeat) (PySem.W.mg_of X G cg_NoTable) ⟨x1_NoSeat, x2_NoSeat, x3_NoSeat, cb_NoSeat, x4_NoSeat, xn_, xt_, x5_NoSeat⟩ xk_NoSeat_NoTable IssD.nil)), (IssD.cons (PySem.W.mg_of X G cg_NoWeb) (PySem.W.mg_of X G cg_NoTerm) ⟨x1_NoWeb, x2_NoWeb, x3_NoWeb, cb_NoWeb, x4_NoWeb, xn_, xt_, x5_NoWeb⟩ xk_NoWeb_NoTerm (IssD.cons (PySem.W.mg_of X G cg_NoSeat) (PySem.W.mg_of X G cg_NoTerm) ⟨x1_NoSeat, x2_NoSeat, x3_NoSeat, cb_NoSeat, x4_NoSeat, xn_, xt_, x5_NoSeat⟩ xk_NoSeat_NoTerm IssD.nil)), (IssD.cons (PySem.W.mg_of X G cg_NoWeb) (PySem.W.mg_of X G cg_NoWeb) ⟨x1_NoWeb, x2_NoWeb, x3_NoWeb, cb_NoWeb, x4_NoWeb, xn_, xt_, x5_NoWeb⟩ xk_NoWeb_NoWeb (IssD.cons (PySem.W.mg_of X G cg_NoSeat) (PySem.W.mg_of X G cg_NoWeb) ⟨x1_NoSeat, x2_NoSeat, x3_NoSeat, cb_NoSeat, x4_NoSeat, xn_, xt_, x5_NoSeat⟩ xk_NoSeat_NoWeb IssD.nil)), (IssD.cons (PySem.W.mg_of X G cg_NoWeb) (PySem.W.mg_of X G cg_NoWords) ⟨x1_NoWeb, x2_NoWeb, x3_NoWeb, cb_NoWeb, x4_NoWeb, xn_, xt_, x5_NoWeb⟩ xk_NoWeb_NoWords (IssD.cons (PySem.W.mg_of X G cg_NoSeat) (PySem.W.mg_of X G cg_NoWords) ⟨x1_NoSeat, x2_NoSeat, x3_NoSeat, cb_NoSeat, x4_NoSeat, xn_, xt_, x5_NoSeat⟩ xk_NoSeat_NoWords IssD.nil)), (fun _ h => (nomatch h)), (all_cons ⟨_, PySem.W.mg_of X G cg_NoSeat, ⟨dgq_NoSeat, dhq_NoSeat, cb_NoSeat, ddq_NoSeat⟩, dnq_NoSeat_seat⟩ (fun _ h => (nomatch h))), (Exm3.cons ⟨_, _, PySem.W.mg_of X G cg_NoWeb, PySem.W.mg_of X G cg_ComeError, exm_of cb_ComeError ci_ComeError ct_ComeError cs_NoWeb_ComeError⟩ ⟨_, _, PySem.W.mg_of X G cg_NoWeb, PySem.W.mg_of X G cg_NoSeat, exm_of cb_NoSeat ci_NoSeat ct_NoSeat cs_NoWeb_NoSeat⟩ ⟨_, _, PySem.W.mg_of X G cg_NoWeb, PySem.W.mg_of X G cg_NoNumber, exm_of cb_NoNumber ci_NoNumber ct_NoNumber cs_NoWeb_NoNumber⟩ (Exm3.cons ⟨_, _, PySem.W.mg_of X G cg_NoSeat, PySem.W.mg_of X G cg_ComeError, exm_of cb_ComeError ci_ComeError ct_ComeError cs_NoSeat_ComeError⟩ ⟨_, _, PySem.W.mg_of X G cg_NoSeat, PySem.W.mg_of X G cg_NoSeat, exm_of cb_NoSeat ci_NoSeat ct_NoSeat cs_NoSeat_NoSeat⟩ ⟨_, _, PySem.W.mg_of X G cg_NoSeat, PySem.W.mg_of X G cg_NoNumber, exm_of cb_NoNumber ci_NoNumber ct_NoNumber cs_NoSeat_NoNumber⟩ Exm3.nil))⟩
  m0 := PySem.W.mg_of X G g0
  u0 := ⟨_, fun_mk (st := s__law_pool) l0 c0 k0⟩
  m1 := PySem.W.mg_of X G g1
  u1 := ⟨_, fun_mk (st := s__law_take) l1 c1 k1⟩
  m2 := PySem.W.mg_of X G g2
  u2 := ⟨_, fun_mk (st := s__law_any_web) l2 c2 k2⟩
  m3 := PySem.W.mg_of X G g3
  u3 := ⟨_, fun_mk (st := s_is_whole) l3 c3 k3⟩
  m4 := PySem.W.mg_of X G g4
  u4 := ⟨_, fun_mk (st := s_is_below) l4 c4 k4⟩
  m5 := PySem.W.mg_of X G g5
  u5 := ⟨_, fun_mk (st := s_are_below) l5 c5 k5⟩
  m6 := PySem.W.mg_of X G g6
  u6 := ⟨_, fun_mk (st := s_is_tie) l6 c6 k6⟩
  m7 := PySem.W.mg_of X G g7
  u7 := ⟨_, fun_mk (st := s_are_rising) l7 c7 k7⟩
  m8 := PySem.W.mg_of X G g8
  u8 := ⟨_, fun_mk (st := s_is_web) l8 c8 k8⟩
  m9 := PySem.W.mg_of X G g9
  u9 := ⟨_, fun_mk (st := s_need_web) l9 c9 k9⟩
  m10 := PySem.W.mg_of X G g10
  u10 := ⟨_, fun_mk (st := s_need_seat) l10 c10 k10⟩
  m11 := PySem.W.mg_of X G g11
  u11 := ⟨_, fun_mk (st := s_neighbours_by) l11 c11 k11⟩
  m12 := PySem.W.mg_of X G g12
  u12 := ⟨_, fun_mk (st := s_neighbours) l12 c12 k12⟩
  m13 := PySem.W.mg_of X G g13
  u13 := ⟨_, fun_mk (st := s__law_beside) l13 c13 k13⟩
  m14 := PySem.W.mg_of X G g14
  u14 := ⟨_, fun_mk (st := s__law_bent_web) l14 c14 k14⟩
  m15 := PySem.W.mg_of X G g15
  u15 := ⟨_, fun_mk (st := s__law_caught) l15 c15 k15⟩
  m16 := PySem.W.mg_of X G g16
  u16 := ⟨_, fun_mk (st := s_law) l16 c16 k16⟩
  t16 := ⟨g16, lt16⟩
end
set_option maxHeartbeats 0 in
theorem all_ok {P : Program} {w : World} {K : PySem.W.Frag} {mg : Str → Option Value} {a0 a1 a2 a3 a4 a5 a6 a7 a8 a9 a10 a11 a12 a13 a14 a15 a16 : Addr} (T : Top K w.params mg a0 a1 a2 a3 a4 a5 a6 a7 a8 a9 a10 a11 a12 a13 a14 a15 a16) :
    ∃ fd : FuncData, (∀ (s : Shared) (v : Value), BindsTo s fd ⟨[v], []⟩ [("script", v)]) ∧ ∀ base : Heap, BaseD K mg base → FnG P w K mg base 10 a16 fd P_law (spM K mg 1 f_law) := by
  obtain ⟨fd0, F0⟩ := T.u0
  obtain ⟨fd1, F1⟩ := T.u1
  obtain ⟨fd2, F2⟩ := T.u2
  obtain ⟨fd3, F3⟩ := T.u3
  obtain ⟨fd4, F4⟩ := T.u4
  obtain ⟨fd5, F5⟩ := T.u5
  obtain ⟨fd6, F6⟩ := T.u6
  obtain ⟨fd7, F7⟩ := T.u7
  obtain ⟨fd8, F8⟩ := T.u8
  obtain ⟨fd9, F9⟩ := T.u9
  obtain ⟨fd10, F10⟩ := T.u10
  obtain ⟨fd11, F11⟩ := T.u11
  obtain ⟨fd12, F12⟩ := T.u12
  obtain ⟨fd13, F13⟩ := T.u13
  obtain ⟨fd14, F14⟩ := T.u14
  obtain ⟨fd15, F15⟩ := T.u15
  obtain ⟨fd16, F16⟩ := T.u16
  have b0 := F0.binds (ps := P__law_pool) (fun _ _ _ _ _ _ us hl => match us, hl with | [_, _], _ => rfl)
  have b1 := F1.binds (ps := P__law_take) (fun _ _ _ _ _ _ us hl => match us, hl with | [_, _], _ => rfl)
  have b2 := F2.binds (ps := P__law_any_web) (fun _ _ _ _ _ _ us hl => match us, hl with | [_, _], _ => rfl)
  have b3 := F3.binds (ps := P_is_whole) (fun _ _ _ _ _ _ us hl => match us, hl with | [_], _ => rfl)
  have b4 := F4.binds (ps := P_is_below) (fun _ _ _ _ _ _ us hl => match us, hl with | [_, _], _ => rfl)
  have b5 := F5.binds (ps := P_are_below) (fun _ _ _ _ _ _ us hl => match us, hl with | [_, _], _ => rfl)
  have b6 := F6.binds (ps := P_is_tie) (fun _ _ _ _ _ _ us hl => match us, hl with | [_, _], _ => rfl)
  have b7 := F7.binds (ps := P_are_rising) (fun _ _ _ _ _ _ us hl => match us, hl with | [_], _ => rfl)
  have b8 := F8.binds (ps := P_is_web) (fun _ _ _ _ _ _ us hl => match us, hl with | [_], _ => rfl)
  have b9 := F9.binds (ps := P_need_web) (fun _ _ _ _ _ _ us hl => match us, hl with | [_], _ => rfl)
  have b10 := F10.binds (ps := P_need_seat) (fun _ _ _ _ _ _ us hl => match us, hl with | [_, _], _ => rfl)
  have b11 := F11.binds (ps := P_neighbours_by) (fun _ _ _ _ _ _ us hl => match us, hl with | [_, _], _ => rfl)
  have b12 := F12.binds (ps := P_neighbours) (fun _ _ _ _ _ _ us hl => match us, hl with | [_, _], _ => rfl)
  have b13 := F13.binds (ps := P__law_beside) (fun _ _ _ _ _ _ us hl => match us, hl with | [_, _], _ => rfl)
  have b14 := F14.binds (ps := P__law_bent_web) (fun _ _ _ _ _ _ us hl => match us, hl with | [_, _], _ => rfl)
  have b15 := F15.binds (ps := P__law_caught) (fun _ _ _ _ _ _ us hl => match us, hl with | [_], _ => rfl)
  have b16 := F16.binds (ps := P_law) (fun _ _ _ _ _ _ us hl => match us, hl with | [_], _ => rfl)
  have C0 : ∀ b : Heap, BaseD K mg b → Cal P w K mg b 1 "_law_pool" P__law_pool f__law_pool := fun b B => Cal.of (ok__law_pool T.txt F0 B) T.m0 F0 b0
  have C1 : ∀ b : Heap, BaseD K mg b → Cal P w K mg b 1 "_law_take" P__law_take f__law_take := fun b B => Cal.of (ok__law_take T.txt F1 B) T.m1 F1 b1
  have C2 : ∀ b : Heap, BaseD K mg b → Cal P w K mg b 2 "_law_any_web" P__law_any_web f__law_any_web := fun b B => Cal.of (ok__law_any_web T.txt F2 B (C1 b B).mono) T.m2 F2 b2
  have C3 : ∀ b : Heap, BaseD K mg b → Cal P w K mg b 1 "is_whole" P_is_whole f_is_whole := fun b B => Cal.of (ok_is_whole T.txt F3 B) T.m3 F3 b3
  have C4 : ∀ b : Heap, BaseD K mg b → Cal P w K mg b 2 "is_below" P_is_below f_is_below := fun b B => Cal.of (ok_is_below T.txt F4 B (C3 b B).mono) T.m4 F4 b4
  have C5 : ∀ b : Heap, BaseD K mg b → Cal P w K mg b 3 "are_below" P_are_below f_are_below := fun b B => Cal.of (ok_are_below T.txt F5 B (C4 b B).mono) T.m5 F5 b5
  have C6 : ∀ b : Heap, BaseD K mg b → Cal P w K mg b 4 "is_tie" P_is_tie f_is_tie := fun b B => Cal.of (ok_is_tie T.txt F6 B (C5 b B).mono) T.m6 F6 b6
  have C7 : ∀ b : Heap, BaseD K mg b → Cal P w K mg b 1 "are_rising" P_are_rising f_are_rising := fun b B => Cal.of (ok_are_rising T.txt F7 B) T.m7 F7 b7
  have C8 : ∀ b : Heap, BaseD K mg b → Cal P w K mg b 5 "is_web" P_is_web f_is_web := fun b B => Cal.of (ok_is_web T.txt F8 B (C4 b B).mono (C6 b B).mono (C7 b B).mono) T.m8 F8 b8
  have C9 : ∀ b : Heap, BaseD K mg b → Cal P w K mg b 6 "need_web" P_need_web f_need_web := fun b B => Cal.of (ok_need_web T.txt F9 B (C8 b B).mono) T.m9 F9 b9
  have C10 : ∀ b : Heap, BaseD K mg b → Cal P w K mg b 3 "need_seat" P_need_seat f_need_seat := fun b B => Cal.of (ok_need_seat T.txt F10 B (C4 b B).mono) T.m10 F10 b10
  have C11 : ∀ b : Heap, BaseD K mg b → Cal P w K mg b 1 "neighbours_by" P_neighbours_by f_neighbours_by := fun b B => Cal.of (ok_neighbours_by T.txt F11 B) T.m11 F11 b11
  have C12 : ∀ b : Heap, BaseD K mg b → Cal P w K mg b 7 "neighbours" P_neighbours f_neighbours := fun b B => Cal.of (ok_neighbours T.txt F12 B (C9 b B).mono (C10 b B).mono (C11 b B).mono) T.m12 F12 b12
  have C13 : ∀ b : Heap, BaseD K mg b → Cal P w K mg b 1 "_law_beside" P__law_beside f__law_beside := fun b B => Cal.of (ok__law_beside T.txt F13 B) T.m13 F13 b13
  have C14 : ∀ b : Heap, BaseD K mg b → Cal P w K mg b 2 "_law_bent_web" P__law_bent_web f__law_bent_web := fun b B => Cal.of (ok__law_bent_web T.txt F14 B (C1 b B).mono) T.m14 F14 b14
  have C15 : ∀ b : Heap, BaseD K mg b → CalT P w K mg b 1 "_law_caught" "call" N__law_caught (defScope s__law_caught) f__law_caught := fun b B => ⟨_, _, ok__law_caught T.txt F15 B, T.m15, F15.kp, b15⟩
  refine ⟨fd16, fun s v => ?_, fun b B => ok_law T.txt F16 B T.t16 (C0 b B).mono (C2 b B).mono (C12 b B).mono (C13 b B).mono (C14 b B).mono (C8 b B).mono (C1 b B).mono (C15 b B).mono (C12 b B).mono⟩
  have hb := b16 s [v]
  obtain ⟨oc, od, kV, doc, pm, an, cdv, ct, osl, rfl, lk, hcd⟩ := F16.ex
  exact .of_eq rfl
def TopE (K : PySem.W.Frag) (P : Params) (mg : Str → Option Value) (fa : Addr) : Prop := ∃ a0 a1 a2 a3 a4 a5 a6 a7 a8 a9 a10 a11 a12 a13 a14 a15 : Addr, Top K P mg a0 a1 a2 a3 a4 a5 a6 a7 a8 a9 a10 a11 a12 a13 a14 a15 fa
theorem top_fa {P : Params} {K : PySem.W.Frag} {h : Heap} {mg : Str → Option Value} {fa : Addr} {a0 a1 a2 a3 a4 a5 a6 a7 a8 a9 a10 a11 a12 a13 a14 a15 a16 : Addr} (X : K.In h) (G : h.Ns mainGlobals mg) (hfa : mg "law" = some (.ref fa)) {od0 an0 od1 an1 od2 an2 od3 an3 od4 an4 od5 an5 od6 an6 od7 an7 od8 an8 od9 an9 od10 an10 od11 an11 od12 an12 od13 an13 od14 an14 od15 an15 od16 an16 : Option Addr} {sl0 sl1 sl2 sl3 sl4 sl5 sl6 sl7 sl8 sl9 sl10 sl11 sl12 sl13 sl14 sl15 sl16 : Array (Option Value)} {oc0 kV0 dc0 pm0 cd0 ct0 oc1 kV1 dc1 pm1 cd1 ct1 oc2 kV2 dc2 pm2 cd2 ct2 oc3 kV3 dc3 pm3 cd3 ct3 oc4 kV4 dc4 pm4 cd4 ct4 oc5 kV5 dc5 pm5 cd5 ct5 oc6 kV6 dc6 pm6 cd6 ct6 oc7 kV7 dc7 pm7 cd7 ct7 oc8 kV8 dc8 pm8 cd8 ct8 oc9 kV9 dc9 pm9 cd9 ct9 oc10 kV10 dc10 pm10 cd10 ct10 oc11 kV11 dc11 pm11 cd11 ct11 oc12 kV12 dc12 pm12 cd12 ct12 oc13 kV13 dc13 pm13 cd13 ct13 oc14 kV14 dc14 pm14 cd14 ct14 oc15 kV15 dc15 pm15 cd15 ct15 oc16 kV16 dc16 pm16 cd16 ct16 : Value} {ty_MOST_SEATS : Tok} {ac_ComeError : Addr} {ac_NoDeed : Addr} {ac_NoGoes : Addr} {ac_NoNumber : Addr} {ac_NoPlan : Addr} {ac_NoPlans : Addr} {ac_NoRun : Addr} {ac_NoScene : Addr} {ac_NoSeat : Addr} {ac_NoTable : Addr} {ac_NoTerm : Addr} {ac_NoWeb : Addr} {ac_NoWords : Addr} {af_NoSeat : Addr} {odX_NoSeat anX_NoSeat : Option Addr} {slX_NoSeat : Array (Option Value)} {ocX_NoSeat kVX_NoSeat dcX_NoSeat pmX_NoSeat cdX_NoSeat ctX_NoSeat : Value}
    (g0 : PySem.W.nsIn K mainGlobals "_law_pool" = some (some (.ref a0))) (l0 : K.lookup a0 = some ⟨oc0, od0, .func (PySem.W.fnOf "_law_pool" "_law_pool" (defArgs s__law_pool) (defBody s__law_pool) (defScope s__law_pool) .none kV0 dc0 pm0 an0 cd0 ct0), sl0⟩) (c0 : PySem.W.codeIn K cd0 "_law_pool" = true) (k0 : PySem.W.keepIn K (.ref a0) = true)
    (g1 : PySem.W.nsIn K mainGlobals "_law_take" = some (some (.ref a1))) (l1 : K.lookup a1 = some ⟨oc1, od1, .func (PySem.W.fnOf "_law_take" "_law_take" (defArgs s__law_take) (defBody s__law_take) (defScope s__law_take) .none kV1 dc1 pm1 an1 cd1 ct1), sl1⟩) (c1 : PySem.W.codeIn K cd1 "_law_take" = true) (k1 : PySem.W.keepIn K (.ref a1) = true)
    (g2 : PySem.W.nsIn K mainGlobals "_law_any_web" = some (some (.ref a2))) (l2 : K.lookup a2 = some ⟨oc2, od2, .func (PySem.W.fnOf "_law_any_web" "_law_any_web" (defArgs s__law_any_web) (defBody s__law_any_web) (defScope s__law_any_web) .none kV2 dc2 pm2 an2 cd2 ct2), sl2⟩) (c2 : PySem.W.codeIn K cd2 "_law_any_web" = true) (k2 : PySem.W.keepIn K (.ref a2) = true)
    (g3 : PySem.W.nsIn K mainGlobals "is_whole" = some (some (.ref a3))) (l3 : K.lookup a3 = some ⟨oc3, od3, .func (PySem.W.fnOf "is_whole" "is_whole" (defArgs s_is_whole) (defBody s_is_whole) (defScope s_is_whole) .none kV3 dc3 pm3 an3 cd3 ct3), sl3⟩) (c3 : PySem.W.codeIn K cd3 "is_whole" = true) (k3 : PySem.W.keepIn K (.ref a3) = true)
    (g4 : PySem.W.nsIn K mainGlobals "is_below" = some (some (.ref a4))) (l4 : K.lookup a4 = some ⟨oc4, od4, .func (PySem.W.fnOf "is_below" "is_below" (defArgs s_is_below) (defBody s_is_below) (defScope s_is_below) .none kV4 dc4 pm4 an4 cd4 ct4), sl4⟩) (c4 : PySem.W.codeIn K cd4 "is_below" = true) (k4 : PySem.W.keepIn K (.ref a4) = true)
    (g5 : PySem.W.nsIn K mainGlobals "are_below" = some (some (.ref a5))) (l5 : K.lookup a5 = some ⟨oc5, od5, .func (PySem.W.fnOf "are_below" "are_below" (defArgs s_are_below) (defBody s_are_below) (defScope s_are_below) .none kV5 dc5 pm5 an5 cd5 ct5), sl5⟩) (c5 : PySem.W.codeIn K cd5 "are_below" = true) (k5 : PySem.W.keepIn K (.ref a5) = true)
    (g6 : PySem.W.nsIn K mainGlobals "is_tie" = some (some (.ref a6))) (l6 : K.lookup a6 = some ⟨oc6, od6, .func (PySem.W.fnOf "is_tie" "is_tie" (defArgs s_is_tie) (defBody s_is_tie) (defScope s_is_tie) .none kV6 dc6 pm6 an6 cd6 ct6), sl6⟩) (c6 : PySem.W.codeIn K cd6 "is_tie" = true) (k6 : PySem.W.keepIn K (.ref a6) = true)
    (g7 : PySem.W.nsIn K mainGlobals "are_rising" = some (some (.ref a7))) (l7 : K.lookup a7 = some ⟨oc7, od7, .func (PySem.W.fnOf "are_rising" "are_rising" (defArgs s_are_rising) (defBody s_are_rising) (defScope s_are_rising) .none kV7 dc7 pm7 an7 cd7 ct7), sl7⟩) (c7 : PySem.W.codeIn K cd7 "are_rising" = true) (k7 : PySem.W.keepIn K (.ref a7) = true)
    (g8 : PySem.W.nsIn K mainGlobals "is_web" = some (some (.ref a8))) (l8 : K.lookup a8 = some ⟨oc8, od8, .func (PySem.W.fnOf "is_web" "is_web" (defArgs s_is_web) (defBody s_is_web) (defScope s_is_web) .none kV8 dc8 pm8 an8 cd8 ct8), sl8⟩) (c8 : PySem.W.codeIn K cd8 "is_web" = true) (k8 : PySem.W.keepIn K (.ref a8) = true)
    (g9 : PySem.W.nsIn K mainGlobals "need_web" = some (some (.ref a9))) (l9 : K.lookup a9 = some ⟨oc9, od9, .func (PySem.W.fnOf "need_web" "need_web" (defArgs s_need_web) (defBody s_need_web) (defScope s_need_web) .none kV9 dc9 pm9 an9 cd9 ct9), sl9⟩) (c9 : PySem.W.codeIn K cd9 "need_web" = true) (k9 : PySem.W.keepIn K (.ref a9) = true)
    (g10 : PySem.W.nsIn K mainGlobals "need_seat" = some (some (.ref a10))) (l10 : K.lookup a10 = some ⟨oc10, od10, .func (PySem.W.fnOf "need_seat" "need_seat" (defArgs s_need_seat) (defBody s_need_seat) (defScope s_need_seat) .none kV10 dc10 pm10 an10 cd10 ct10), sl10⟩) (c10 : PySem.W.codeIn K cd10 "need_seat" = true) (k10 : PySem.W.keepIn K (.ref a10) = true)
    (g11 : PySem.W.nsIn K mainGlobals "neighbours_by" = some (some (.ref a11))) (l11 : K.lookup a11 = some ⟨oc11, od11, .func (PySem.W.fnOf "neighbours_by" "neighbours_by" (defArgs s_neighbours_by) (defBody s_neighbours_by) (defScope s_neighbours_by) .none kV11 dc11 pm11 an11 cd11 ct11), sl11⟩) (c11 : PySem.W.codeIn K cd11 "neighbours_by" = true) (k11 : PySem.W.keepIn K (.ref a11) = true)
    (g12 : PySem.W.nsIn K mainGlobals "neighbours" = some (some (.ref a12))) (l12 : K.lookup a12 = some ⟨oc12, od12, .func (PySem.W.fnOf "neighbours" "neighbours" (defArgs s_neighbours) (defBody s_neighbours) (defScope s_neighbours) .none kV12 dc12 pm12 an12 cd12 ct12), sl12⟩) (c12 : PySem.W.codeIn K cd12 "neighbours" = true) (k12 : PySem.W.keepIn K (.ref a12) = true)
    (g13 : PySem.W.nsIn K mainGlobals "_law_beside" = some (some (.ref a13))) (l13 : K.lookup a13 = some ⟨oc13, od13, .func (PySem.W.fnOf "_law_beside" "_law_beside" (defArgs s__law_beside) (defBody s__law_beside) (defScope s__law_beside) .none kV13 dc13 pm13 an13 cd13 ct13), sl13⟩) (c13 : PySem.W.codeIn K cd13 "_law_beside" = true) (k13 : PySem.W.keepIn K (.ref a13) = true)
    (g14 : PySem.W.nsIn K mainGlobals "_law_bent_web" = some (some (.ref a14))) (l14 : K.lookup a14 = some ⟨oc14, od14, .func (PySem.W.fnOf "_law_bent_web" "_law_bent_web" (defArgs s__law_bent_web) (defBody s__law_bent_web) (defScope s__law_bent_web) .none kV14 dc14 pm14 an14 cd14 ct14), sl14⟩) (c14 : PySem.W.codeIn K cd14 "_law_bent_web" = true) (k14 : PySem.W.keepIn K (.ref a14) = true)
    (g15 : PySem.W.nsIn K mainGlobals "_law_caught" = some (some (.ref a15))) (l15 : K.lookup a15 = some ⟨oc15, od15, .func (PySem.W.fnOf "_law_caught" "_law_caught" (defArgs s__law_caught) (defBody s__law_caught) (defScope s__law_caught) .none kV15 dc15 pm15 an15 cd15 ct15), sl15⟩) (c15 : PySem.W.codeIn K cd15 "_law_caught" = true) (k15 : PySem.W.keepIn K (.ref a15) = true)
    (g16 : PySem.W.nsIn K mainGlobals "law" = some (some (.ref a16))) (l16 : K.lookup a16 = some ⟨oc16, od16, .func (PySem.W.fnOf "law" "law" (defArgs s_law) (defBody s_law) (defScope s_law) .none kV16 dc16 pm16 an16 cd16 ct16), sl16⟩) (c16 : PySem.W.codeIn K cd16 "law" = true) (k16 : PySem.W.keepIn K (.ref a16) = true)
    (lt16 : (PySem.W.tabIn K "law").isSome = true)
    (z_abs : PySem.W.nsIn K mainGlobals "abs" = some none)
    (z_all : PySem.W.nsIn K mainGlobals "all" = some none)
    (z_bool : PySem.W.nsIn K mainGlobals "bool" = some none)
    (z_int : PySem.W.nsIn K mainGlobals "int" = some none)
    (z_isinstance : PySem.W.nsIn K mainGlobals "isinstance" = some none)
    (z_len : PySem.W.nsIn K mainGlobals "len" = some none)
    (z_list : PySem.W.nsIn K mainGlobals "list" = some none)
    (z_max : PySem.W.nsIn K mainGlobals "max" = some none)
    (z_min : PySem.W.nsIn K mainGlobals "min" = some none)
    (z_range : PySem.W.nsIn K mainGlobals "range" = some none)
    (z_repr : PySem.W.nsIn K mainGlobals "repr" = some none)
    (z_sorted : PySem.W.nsIn K mainGlobals "sorted" = some none)
    (z_tuple : PySem.W.nsIn K mainGlobals "tuple" = some none)
    (z_zip : PySem.W.nsIn K mainGlobals "zip" = some none)
    (y_MOST_SEATS : PySem.W.nsIn K mainGlobals "MOST_SEATS" = some (some (.int 12 ty_MOST_SEATS)))
    (cg_ComeError : PySem.W.nsIn K mainGlobals "ComeError" = some (some (.ref ac_ComeError)))
    (cb_ComeError : PySem.W.subIn K (.ref ac_ComeError) (.type "BaseException") = some true)
    (ct_ComeError : PySem.W.typeIn K (.ref ac_ComeError) = some (.type "type"))
    (ck_ComeError : PySem.W.keepIn K (.ref ac_ComeError) = true)
    (cg_NoDeed : PySem.W.nsIn K mainGlobals "NoDeed" = some (some (.ref ac_NoDeed)))
    (cb_NoDeed : PySem.W.subIn K (.ref ac_NoDeed) (.type "BaseException") = some true)
    (ct_NoDeed : PySem.W.typeIn K (.ref ac_NoDeed) = some (.type "type"))
    (ck_NoDeed : PySem.W.keepIn K (.ref ac_NoDeed) = true)
    (cg_NoGoes : PySem.W.nsIn K mainGlobals "NoGoes" = some (some (.ref ac_NoGoes)))
    (cb_NoGoes : PySem.W.subIn K (.ref ac_NoGoes) (.type "BaseException") = some true)
    (ct_NoGoes : PySem.W.typeIn K (.ref ac_NoGoes) = some (.type "type"))
    (ck_NoGoes : PySem.W.keepIn K (.ref ac_NoGoes) = true)
    (cg_NoNumber : PySem.W.nsIn K mainGlobals "NoNumber" = some (some (.ref ac_NoNumber)))
    (cb_NoNumber : PySem.W.subIn K (.ref ac_NoNumber) (.type "BaseException") = some true)
    (ct_NoNumber : PySem.W.typeIn K (.ref ac_NoNumber) = some (.type "type"))
    (ck_NoNumber : PySem.W.keepIn K (.ref ac_NoNumber) = true)
    (cg_NoPlan : PySem.W.nsIn K mainGlobals "NoPlan" = some (some (.ref ac_NoPlan)))
    (cb_NoPlan : PySem.W.subIn K (.ref ac_NoPlan) (.type "BaseException") = some true)
    (ct_NoPlan : PySem.W.typeIn K (.ref ac_NoPlan) = some (.type "type"))
    (ck_NoPlan : PySem.W.keepIn K (.ref ac_NoPlan) = true)
    (cg_NoPlans : PySem.W.nsIn K mainGlobals "NoPlans" = some (some (.ref ac_NoPlans)))
    (cb_NoPlans : PySem.W.subIn K (.ref ac_NoPlans) (.type "BaseException") = some true)
    (ct_NoPlans : PySem.W.typeIn K (.ref ac_NoPlans) = some (.type "type"))
    (ck_NoPlans : PySem.W.keepIn K (.ref ac_NoPlans) = true)
    (cg_NoRun : PySem.W.nsIn K mainGlobals "NoRun" = some (some (.ref ac_NoRun)))
    (cb_NoRun : PySem.W.subIn K (.ref ac_NoRun) (.type "BaseException") = some true)
    (ct_NoRun : PySem.W.typeIn K (.ref ac_NoRun) = some (.type "type"))
    (ck_NoRun : PySem.W.keepIn K (.ref ac_NoRun) = true)
    (cg_NoScene : PySem.W.nsIn K mainGlobals "NoScene" = some (some (.ref ac_NoScene)))
    (cb_NoScene : PySem.W.subIn K (.ref ac_NoScene) (.type "BaseException") = some true)
    (ct_NoScene : PySem.W.typeIn K (.ref ac_NoScene) = some (.type "type"))
    (ck_NoScene : PySem.W.keepIn K (.ref ac_NoScene) = true)
    (cg_NoSeat : PySem.W.nsIn K mainGlobals "NoSeat" = some (some (.ref ac_NoSeat)))
    (cb_NoSeat : PySem.W.subIn K (.ref ac_NoSeat) (.type "BaseException") = some true)
    (ct_NoSeat : PySem.W.typeIn K (.ref ac_NoSeat) = some (.type "type"))
    (ck_NoSeat : PySem.W.keepIn K (.ref ac_NoSeat) = true)
    (cg_NoTable : PySem.W.nsIn K mainGlobals "NoTable" = some (some (.ref ac_NoTable)))
    (cb_NoTable : PySem.W.subIn K (.ref ac_NoTable) (.type "BaseException") = some true)
    (ct_NoTable : PySem.W.typeIn K (.ref ac_NoTable) = some (.type "type"))
    (ck_NoTable : PySem.W.keepIn K (.ref ac_NoTable) = true)
    (cg_NoTerm : PySem.W.nsIn K mainGlobals "NoTerm" = some (some (.ref ac_NoTerm)))
    (cb_NoTerm : PySem.W.subIn K (.ref ac_NoTerm) (.type "BaseException") = some true)
    (ct_NoTerm : PySem.W.typeIn K (.ref ac_NoTerm) = some (.type "type"))
    (ck_NoTerm : PySem.W.keepIn K (.ref ac_NoTerm) = true)
    (cg_NoWeb : PySem.W.nsIn K mainGlobals "NoWeb" = some (some (.ref ac_NoWeb)))
    (cb_NoWeb : PySem.W.subIn K (.ref ac_NoWeb) (.type "BaseException") = some true)
    (ct_NoWeb : PySem.W.typeIn K (.ref ac_NoWeb) = some (.type "type"))
    (ck_NoWeb : PySem.W.keepIn K (.ref ac_NoWeb) = true)
    (cg_NoWords : PySem.W.nsIn K mainGlobals "NoWords" = some (some (.ref ac_NoWords)))
    (cb_NoWords : PySem.W.subIn K (.ref ac_NoWords) (.type "BaseException") = some true)
    (ct_NoWords : PySem.W.typeIn K (.ref ac_NoWords) = some (.type "type"))
    (ck_NoWords : PySem.W.keepIn K (.ref ac_NoWords) = true)
    (ci_ComeError : PySem.W.isClsIn K ac_ComeError = true)
    (cs_NoWeb_ComeError : PySem.W.subIn K (.ref ac_NoWeb) (.ref ac_ComeError) = some true)
    (cs_NoSeat_ComeError : PySem.W.subIn K (.ref ac_NoSeat) (.ref ac_ComeError) = some false)
    (ci_NoNumber : PySem.W.isClsIn K ac_NoNumber = true)
    (cs_NoWeb_NoNumber : PySem.W.subIn K (.ref ac_NoWeb) (.ref ac_NoNumber) = some false)
    (cs_NoSeat_NoNumber : PySem.W.subIn K (.ref ac_NoSeat) (.ref ac_NoNumber) = some false)
    (ci_NoSeat : PySem.W.isClsIn K ac_NoSeat = true)
    (cs_NoWeb_NoSeat : PySem.W.subIn K (.ref ac_NoWeb) (.ref ac_NoSeat) = some false)
    (cs_NoSeat_NoSeat : PySem.W.subIn K (.ref ac_NoSeat) (.ref ac_NoSeat) = some true)
    (cx_NoWeb : PySem.W.excIn K ac_NoWeb [.type "ValueError", .type "Exception", .type "BaseException", .type "object"] "ValueError.__new__" = true)
    (cz_NoSeat : PySem.W.nsIn K mainGlobals "IndexError" = some none)
    (cq_NoSeat : PySem.W.excInitIn K ac_NoSeat [.type "IndexError", .type "LookupError", .type "Exception", .type "BaseException", .type "object"] "IndexError.__new__" = true)
    (co_NoSeat : PySem.W.excOver K ac_NoSeat [.type "IndexError", .type "LookupError", .type "Exception", .type "BaseException", .type "object"] = true)
    (ca_NoSeat : PySem.W.findIn K (.ref ac_NoSeat) "__setattr__" = some (some (.builtin "object.__setattr__")))
    (cu_NoSeat : PySem.W.takerIn K ac_NoSeat "seat" = some none)
    (ch_NoSeat : PySem.W.hasDictIn K ac_NoSeat = true)
    (cn_NoSeat : PySem.W.findIn K (.ref ac_NoSeat) "__init__" = some (some (.ref af_NoSeat)))
    (cf_NoSeat : PySem.W.typeIn K (.ref af_NoSeat) = some (.type "function"))
    (cv_NoSeat : PySem.W.findCls K (.type "IndexError") (.type "type") "__init__" = some (.val (.builtin "IndexError.__init__")))
    (cl_NoSeat : K.lookup af_NoSeat = some ⟨ocX_NoSeat, odX_NoSeat, .func (PySem.W.fnOf "__init__" "NoSeat.__init__" (defArgs (clsSt 12)) (defBody (clsSt 12)) (defScope (clsSt 12)) .none kVX_NoSeat dcX_NoSeat pmX_NoSeat anX_NoSeat cdX_NoSeat ctX_NoSeat), slX_NoSeat⟩)
    (cc_NoSeat : PySem.W.codeIn K cdX_NoSeat "NoSeat.__init__" = true)
    (cp_NoSeat : PySem.W.keepIn K (.ref af_NoSeat) = true)
    (xn_ : PySem.W.specialIn K (.builtin "object.__class__") "__get__" = some (some (.builtin "getset_descriptor.__get__")))
    (xt_ : PySem.W.takesIn K (.builtin "object.__class__") = some true)
    (x1_NoWeb : (PySem.W.clsIn K ac_NoWeb).isSome = true)
    (x2_NoWeb : PySem.W.findIn K (.ref ac_NoWeb) "__getattribute__" = some (some (.builtin "BaseException.__getattribute__")))
    (x3_NoWeb : PySem.W.findIn K (.ref ac_NoWeb) "__getattr__" = some none)
    (x4_NoWeb : PySem.W.findIn K (.ref ac_NoWeb) "__class__" = some (some (.builtin "object.__class__")))
    (x5_NoWeb : PySem.W.mroIn K ac_NoWeb (.type "object") = some true)
    (xk_NoWeb_ComeError : PySem.W.kitOne K (.ref ac_NoWeb) (.ref ac_ComeError) = some true)
    (xk_NoWeb_NoDeed : PySem.W.kitOne K (.ref ac_NoWeb) (.ref ac_NoDeed) = some false)
    (xk_NoWeb_NoGoes : PySem.W.kitOne K (.ref ac_NoWeb) (.ref ac_NoGoes) = some false)
    (xk_NoWeb_NoNumber : PySem.W.kitOne K (.ref ac_NoWeb) (.ref ac_NoNumber) = some false)
    (xk_NoWeb_NoPlan : PySem.W.kitOne K (.ref ac_NoWeb) (.ref ac_NoPlan) = some false)
    (xk_NoWeb_NoPlans : PySem.W.kitOne K (.ref ac_NoWeb) (.ref ac_NoPlans) = some false)
    (xk_NoWeb_NoRun : PySem.W.kitOne K (.ref ac_NoWeb) (.ref ac_NoRun) = some false)
    (xk_NoWeb_NoScene : PySem.W.kitOne K (.ref ac_NoWeb) (.ref ac_NoScene) = some false)
    (xk_NoWeb_NoSeat : PySem.W.kitOne K (.ref ac_NoWeb) (.ref ac_NoSeat) = some false)
    (xk_NoWeb_NoTable : PySem.W.kitOne K (.ref ac_NoWeb) (.ref ac_NoTable) = some false)
    (xk_NoWeb_NoTerm : PySem.W.kitOne K (.ref ac_NoWeb) (.ref ac_NoTerm) = some false)
    (xk_NoWeb_NoWeb : PySem.W.kitOne K (.ref ac_NoWeb) (.ref ac_NoWeb) = some true)
    (xk_NoWeb_NoWords : PySem.W.kitOne K (.ref ac_NoWeb) (.ref ac_NoWords) = some false)
    (x1_NoSeat : (PySem.W.clsIn K ac_NoSeat).isSome = true)
    (x2_NoSeat : PySem.W.findIn K (.ref ac_NoSeat) "__getattribute__" = some (some (.builtin "BaseException.__getattribute__")))
    (x3_NoSeat : PySem.W.findIn K (.ref ac_NoSeat) "__getattr__" = some none)
    (x4_NoSeat : PySem.W.findIn K (.ref ac_NoSeat) "__class__" = some (some (.builtin "object.__class__")))
    (x5_NoSeat : PySem.W.mroIn K ac_NoSeat (.type "object") = some true)
    (xk_NoSeat_ComeError : PySem.W.kitOne K (.ref ac_NoSeat) (.ref ac_ComeError) = some false)
    (xk_NoSeat_NoDeed : PySem.W.kitOne K (.ref ac_NoSeat) (.ref ac_NoDeed) = some false)
    (xk_NoSeat_NoGoes : PySem.W.kitOne K (.ref ac_NoSeat) (.ref ac_NoGoes) = some false)
    (xk_NoSeat_NoNumber : PySem.W.kitOne K (.ref ac_NoSeat) (.ref ac_NoNumber) = some false)
    (xk_NoSeat_NoPlan : PySem.W.kitOne K (.ref ac_NoSeat) (.ref ac_NoPlan) = some false)
    (xk_NoSeat_NoPlans : PySem.W.kitOne K (.ref ac_NoSeat) (.ref ac_NoPlans) = some false)
    (xk_NoSeat_NoRun : PySem.W.kitOne K (.ref ac_NoSeat) (.ref ac_NoRun) = some false)
    (xk_NoSeat_NoScene : PySem.W.kitOne K (.ref ac_NoSeat) (.ref ac_NoScene) = some false)
    (xk_NoSeat_NoSeat : PySem.W.kitOne K (.ref ac_NoSeat) (.ref ac_NoSeat) = some true)
    (xk_NoSeat_NoTable : PySem.W.kitOne K (.ref ac_NoSeat) (.ref ac_NoTable) = some false)
    (xk_NoSeat_NoTerm : PySem.W.kitOne K (.ref ac_NoSeat) (.ref ac_NoTerm) = some false)
    (xk_NoSeat_NoWeb : PySem.W.kitOne K (.ref ac_NoSeat) (.ref ac_NoWeb) = some false)
    (xk_NoSeat_NoWords : PySem.W.kitOne K (.ref ac_NoSeat) (.ref ac_NoWords) = some false)
    (dgq_NoSeat : PySem.W.findIn K (.ref ac_NoSeat) "__getattribute__" = some (some (.builtin "BaseException.__getattribute__")))
    (dhq_NoSeat : PySem.W.findIn K (.ref ac_NoSeat) "__getattr__" = some none)
    (ddq_NoSeat : PySem.W.hasDictIn K ac_NoSeat = true)
    (dnq_NoSeat_seat : PySem.W.findIn K (.ref ac_NoSeat) "seat" = some none)
    : TopE K P mg fa := by
  have T := top_mk (P := P) X G g0 l0 c0 k0 g1 l1 c1 k1 g2 l2 c2 k2 g3 l3 c3 k3 g4 l4 c4 k4 g5 l5 c5 k5 g6 l6 c6 k6 g7 l7 c7 k7 g8 l8 c8 k8 g9 l9 c9 k9 g10 l10 c10 k10 g11 l11 c11 k11 g12 l12 c12 k12 g13 l13 c13 k13 g14 l14 c14 k14 g15 l15 c15 k15 g16 l16 c16 k16 lt16 z_abs z_all z_bool z_int z_isinstance z_len z_list z_max z_min z_range z_repr z_sorted z_tuple z_zip y_MOST_SEATS cg_ComeError cb_ComeError ct_ComeError ck_ComeError cg_NoDeed cb_NoDeed ct_NoDeed ck_NoDeed cg_NoGoes cb_NoGoes ct_NoGoes ck_NoGoes cg_NoNumber cb_NoNumber ct_NoNumber ck_NoNumber cg_NoPlan cb_NoPlan ct_NoPlan ck_NoPlan cg_NoPlans cb_NoPlans ct_NoPlans ck_NoPlans cg_NoRun cb_NoRun ct_NoRun ck_NoRun cg_NoScene cb_NoScene ct_NoScene ck_NoScene cg_NoSeat cb_NoSeat ct_NoSeat ck_NoSeat cg_NoTable cb_NoTable ct_NoTable ck_NoTable cg_NoTerm cb_NoTerm ct_NoTerm ck_NoTerm cg_NoWeb cb_NoWeb ct_NoWeb ck_NoWeb cg_NoWords cb_NoWords ct_NoWords ck_NoWords ci_ComeError cs_NoWeb_ComeError cs_NoSeat_ComeError ci_NoNumber cs_NoWeb_NoNumber cs_NoSeat_NoNumber ci_NoSeat cs_NoWeb_NoSeat cs_NoSeat_NoSeat cx_NoWeb cz_NoSeat cq_NoSeat co_NoSeat ca_NoSeat cu_NoSeat ch_NoSeat cn_NoSeat cf_NoSeat cv_NoSeat cl_NoSeat cc_NoSeat cp_NoSeat xn_ xt_ x1_NoWeb x2_NoWeb x3_NoWeb x4_NoWeb x5_NoWeb xk_NoWeb_ComeError xk_NoWeb_NoDeed xk_NoWeb_NoGoes xk_NoWeb_NoNumber xk_NoWeb_NoPlan xk_NoWeb_NoPlans xk_NoWeb_NoRun xk_NoWeb_NoScene xk_NoWeb_NoSeat xk_NoWeb_NoTable xk_NoWeb_NoTerm xk_NoWeb_NoWeb xk_NoWeb_NoWords x1_NoSeat x2_NoSeat x3_NoSeat x4_NoSeat x5_NoSeat xk_NoSeat_ComeError xk_NoSeat_NoDeed xk_NoSeat_NoGoes xk_NoSeat_NoNumber xk_NoSeat_NoPlan xk_NoSeat_NoPlans xk_NoSeat_NoRun xk_NoSeat_NoScene xk_NoSeat_NoSeat xk_NoSeat_NoTable xk_NoSeat_NoTerm xk_NoSeat_NoWeb xk_NoSeat_NoWords dgq_NoSeat dhq_NoSeat ddq_NoSeat dnq_NoSeat_seat
  have e := hfa.symm.trans T.m16
  cases e
  exact ⟨_, _, _, _, _, _, _, _, _, _, _, _, _, _, _, _, T⟩
theorem walk {l : PySem.W.OpenLaw} {q : Program} {loose : List Str} {XP : (Str → Option Value) → Heap → Prop} {YP : World → Heap → Prop} {d : DefRec} {K : Params → PySem.W.Frag} (hn : l.most = some 63) (hdf : d.params.defaults = []) (hNL : ∀ w : World, noLst (K w.params) = true) (hKT : ∀ w : World, tabsOk (K w.params) = true) (hKR : ∀ w : World, recsOk q (K w.params) = true) (hin : PyProof.Rows.importsNone q = true)
    (hY : ∀ (w : World) (h : Heap), YP w h → (K w.params).In h) (F : ∀ (w : World) (mg : Str → Option Value) (fa : Addr) (h : Heap), (K w.params).In h → h.Ns mainGlobals mg → mg d.name = some (.ref fa) → TopE (K w.params) w.params mg fa)
    (hlaw : ∀ ns : List Int, ns.length ≤ 63 → f_law [.lst (ns.map .int)] [] = .ok (.bl true) []) :
    PySem.W.WalkO q loose XP YP l.row.toRowW d [] (fun f vs => PySem.call f vs) :=
  walk_ofH (n := 63) (k := 10) (x := "script") (sp := fun w => spE (K w.params) f_law) hn (by decide) hdf ⟨⟨rfl, by decide, by decide⟩, rfl⟩ hNL hKT hKR hin hY
    (fun w mg fa h KX G hmg => let ⟨_, _, _, _, _, _, _, _, _, _, _, _, _, _, _, _, T⟩ := F w mg fa h KX G hmg; let ⟨fd, hb, hF⟩ := all_ok T; ⟨fd, hb, fun base _ _ B => (hF base B).toE⟩)
    (fun w H a ns hl hS hT => spE_law hlaw hl hS hT) fun w H s e s2 z => noX z
end K01
end
section
namespace K01
open PySem PySem.Spec PyProof.Rows L2 DL
abbrev nD (i : Nat) : PyData := .int i
abbrev tieD (p : Nat × Nat) : PyData := .tuple [.int p.1, .int p.2]
abbrev webD (n : Nat) (ts : List (Nat × Nat)) : PyData := .tuple [.int n, .tuple (ts.map tieD)]
def tlt (p q : Nat × Nat) : Prop := p.1 < q.1 ∨ (p.1 = q.1 ∧ p.2 < q.2)
instance (p q : Nat × Nat) : Decidable (tlt p q) := inferInstanceAs (Decidable (_ ∨ _))
structure GW (n : Nat) (ts : List (Nat × Nat)) : Prop where
  n1 : 1 ≤ n
  n12 : n ≤ 12
  tie : ∀ p ∈ ts, p.1 < p.2 ∧ p.2 < n
  ris : ts.Pairwise tlt
  len : ts.length ≤ 1000
theorem le_size {n : Nat} (h : n ≤ 100000) : n ≤ sizeLine := by rw [sizeLine_eq]; omega
theorem is_whole_int (i : Int) : f_is_whole [.int i] [] = .ok (.bl true) [] := by
  refine runF_pure (S' := []) ?_
  simp [m_is_whole, startD, isTy]
theorem is_below_int (i m : Int) : f_is_below [.int i, .int m] [] = .ok (.bl (decide (0 ≤ i) && decide (i < m))) [] := by
  have h := fun σ S => callF_pd (n := 1) (is_whole_int i) rfl rfl rfl rfl σ S
  refine runF_pure (S' := []) ?_
  simp [m_is_below, startD, h]
  by_cases hi : 0 ≤ i <;> simp [hi]
theorem is_below_nat (i m : Nat) : f_is_below [.int i, .int m] [] = .ok (.bl (decide (i < m))) [] := by
  rw [is_below_int]
  simp
theorem are_below_nat (xs : List Nat) (m : Nat) (hl : xs.length ≤ 100000) : f_are_below [.tup (xs.map nD), .int m] [] = .ok (.bl (xs.all fun x => decide (x < m))) [] := by
  refine runF_pure (S' := []) ?_
  have h := fun (x : Nat) σ S => callF_pd (n := 2) (is_below_nat x m) rfl rfl rfl rfl σ S
  have e : eLc [2] (iSeq (eVar 0)) (tgName 2) (mRet true) qare_below_e1 [some (.tup (xs.map nD)), some (.int m), none] [] = .ok (.lst (xs.map fun x => .bool (decide (x < m)))) [] := by
    refine eLc_all (gu := .no) xs (fun x => D.int x) (fun x => .bool (decide (x < m))) ((iSeq_tup (xs := xs.map nD) (by simp)).trans (by rw [List.map_map]; rfl)) (by exact trivial) (fun x _ => ⟨_, rfl, ?_⟩) (le_size hl)
    simp [qare_below_e1, h]
  simp [m_are_below, startD, isTy, e, fAll_map]
theorem lexLt2 (a b c d : Int) : HT.lexLt [a, b] [c, d] = (decide (a < c) || (decide (a = c) && decide (b < d))) := by
  simp only [HT.lexLt]
  by_cases h1 : a = c
  · subst h1
    by_cases h2 : b = d
    · subst h2; simp
    · simp [h2]
  · simp [h1]
theorem lt_nat (a b : Nat) (S : Sto) : opLt (.pd (nD a)) (.pd (nD b)) S = .ok (.bl (decide (a < b))) S := by
  rw [opLt_int]; simp
theorem lt_tie (p q : Nat × Nat) (S : Sto) : opLt (.pd (tieD p)) (.pd (tieD q)) S = .ok (.bl (decide (tlt p q))) S := by
  obtain ⟨a, b⟩ := p
  obtain ⟨c, d⟩ := q
  show Out.ok (D.bl (HT.lexLt [(a : Int), (b : Int)] [(c : Int), (d : Int)])) S = _
  rw [lexLt2]
  have : ∀ x y : Bool, (x = true ↔ y = true) → x = y := by decide
  refine congrArg (fun b => Out.ok (D.bl b) S) (this _ _ ?_)
  simp only [Bool.or_eq_true, Bool.and_eq_true, decide_eq_true_eq]
  show _ ↔ (a < c ∨ (a = c ∧ b < d))
  omega
theorem cut1 {α : Type} (xs : List α) : cut xs (some 1) none = xs.drop 1 := by
  cases xs with
  | nil => simp [cut]
  | cons x r =>
    simp [cut, HT.sIx]
theorem zip_tl {α : Type} {R : α → α → Prop} : ∀ {xs : List α}, xs.Pairwise R → ∀ p ∈ xs.zip (xs.drop 1), R p.1 p.2
  | [], _, p, h => by simp at h
  | [x], _, p, h => by simp at h
  | x :: y :: r, hp, p, h => by
    rw [List.pairwise_cons] at hp
    simp only [List.drop_succ_cons, List.drop_zero, List.zip_cons_cons] at h
    rcases List.mem_cons.mp h with rfl | h
    · exact hp.1 y List.mem_cons_self
    · exact zip_tl hp.2 p (by simpa using h)
theorem are_rising_of {α : Type} (enc : α → PyData) (R : α → α → Prop) (hlt : ∀ a b S, R a b → opLt (.pd (enc a)) (.pd (enc b)) S = .ok (.bl true) S) (xs : List α) (hp : xs.Pairwise R) (hl : xs.length ≤ 100000) : f_are_rising [.tup (xs.map enc)] [] = .ok (.bl true) [] := by
  refine runF_pure (S' := []) ?_
  have z : zipIt (xs.map enc) ((xs.map enc).drop 1) = (xs.zip (xs.drop 1)).map fun p => D.tup [enc p.1, enc p.2] := by
    unfold zipIt
    rw [← List.map_drop, List.zipWith_map, List.zip]
    rw [List.map_zipWith]
  have e : eLc [1, 2] (DL.iZip (lCons (eVar 0) (lCons (eSlice (eVar 0) (mBind (eK (.int 1)) asI) (mRet none)) lNil))) (tgTup (tgCons (tgName 1) (tgCons (tgName 2) tgNil))) (mRet true) qare_rising_e1 [some (.tup (xs.map enc)), none, none] [] = .ok (.lst ((xs.zip (xs.drop 1)).map fun _ => .bool true)) [] := by
    refine eLc_all (gu := .no) (xs.zip (xs.drop 1)) (fun p => D.tup [enc p.1, enc p.2]) (fun _ => .bool true) ?_ (by exact trivial) (fun p hm => ⟨_, rfl, ?_⟩) (le_size ?_)
    · unfold DL.iZip
      simp only [Out.bind_ok, mBind_app, mRet_app, eVar_0, eVar_1, eVar_2, eVar_3, eVar_4, eVar_5, eVar_6, eVar_7, eVar_8, eVar_9, eVar_10, eK_app, eOp_app, asB_bl, eTest_app, tru_bl, eTru_app, eChain_app, bNot_app, bAnd_app, bOr_app, eNot_app, eAnd_app, eOr_app, eIf_app, eUn_app, lNil_app, lCons_app, eTup_app, eLst_app, eLstM_app, eCall_app, eSlice_app, asI_int, eMeth_app, sNext_app, sNever_app, sBrk_app, sCont_app, sSeq_app, sSet_app, sExpr_app, sRet_app, sRetN_app, sIf_app, sAsg_app, eRg1_app, eIsI_app, opAdd_int, opSub_int, opCmpI_int, opLt_int, opEq_int, tgName_app, tgNil_app, tgCons_app, tgTup_app, clr_nil', clr_cons', ofO_some, opIx_tup0, opIx_tup1, fLen_tup, fLen_lst, fTuple_lst, startD, isTy, List.map_cons, List.map_nil, List.length_cons, List.length_nil, List.cons_append, List.nil_append, List.replicate, Nat.reduceAdd, Nat.reduceSub, List.set_cons_zero, List.set_cons_succ, reduceIte, eq_self, Bool.false_eq_true, Bool.not_true, Bool.not_false, Option.bind_some, Bool.xor_false, Bool.xor_true, decide_true, decide_false, slD, cut1, wkZip]
      rw [z]
    · simp only [Out.bind_ok, mBind_app, mRet_app, eVar_0, eVar_1, eVar_2, eVar_3, eVar_4, eVar_5, eVar_6, eVar_7, eVar_8, eVar_9, eVar_10, eK_app, eOp_app, asB_bl, eTest_app, tru_bl, eTru_app, eChain_app, bNot_app, bAnd_app, bOr_app, eNot_app, eAnd_app, eOr_app, eIf_app, eUn_app, lNil_app, lCons_app, eTup_app, eLst_app, eLstM_app, eCall_app, eSlice_app, asI_int, eMeth_app, sNext_app, sNever_app, sBrk_app, sCont_app, sSeq_app, sSet_app, sExpr_app, sRet_app, sRetN_app, sIf_app, sAsg_app, eRg1_app, eIsI_app, opAdd_int, opSub_int, opCmpI_int, opLt_int, opEq_int, tgName_app, tgNil_app, tgCons_app, tgTup_app, clr_nil', clr_cons', ofO_some, opIx_tup0, opIx_tup1, fLen_tup, fLen_lst, fTuple_lst, startD, isTy, List.map_cons, List.map_nil, List.length_cons, List.length_nil, List.cons_append, List.nil_append, List.replicate, Nat.reduceAdd, Nat.reduceSub, List.set_cons_zero, List.set_cons_succ, reduceIte, eq_self, Bool.false_eq_true, Bool.not_true, Bool.not_false, Option.bind_some, Bool.xor_false, Bool.xor_true, decide_true, decide_false, qare_rising_e1]
      exact hlt p.1 p.2 _ (zip_tl hp p hm)
    · rw [List.length_zip]; omega
  simp only [Out.bind_ok, mBind_app, mRet_app, eVar_0, eVar_1, eVar_2, eVar_3, eVar_4, eVar_5, eVar_6, eVar_7, eVar_8, eVar_9, eVar_10, eK_app, eOp_app, asB_bl, eTest_app, tru_bl, eTru_app, eChain_app, bNot_app, bAnd_app, bOr_app, eNot_app, eAnd_app, eOr_app, eIf_app, eUn_app, lNil_app, lCons_app, eTup_app, eLst_app, eLstM_app, eCall_app, eSlice_app, asI_int, eMeth_app, sNext_app, sNever_app, sBrk_app, sCont_app, sSeq_app, sSet_app, sExpr_app, sRet_app, sRetN_app, sIf_app, sAsg_app, eRg1_app, eIsI_app, opAdd_int, opSub_int, opCmpI_int, opLt_int, opEq_int, tgName_app, tgNil_app, tgCons_app, tgTup_app, clr_nil', clr_cons', ofO_some, opIx_tup0, opIx_tup1, fLen_tup, fLen_lst, fTuple_lst, startD, isTy, List.map_cons, List.map_nil, List.length_cons, List.length_nil, List.cons_append, List.nil_append, List.replicate, Nat.reduceAdd, Nat.reduceSub, List.set_cons_zero, List.set_cons_succ, reduceIte, eq_self, Bool.false_eq_true, Bool.not_true, Bool.not_false, Option.bind_some, Bool.xor_false, Bool.xor_true, decide_true, decide_false, m_are_rising, e, fAll_map]
  simp
theorem is_tie_nat (p : Nat × Nat) (m : Nat) (h : p.1 < p.2 ∧ p.2 < m) : f_is_tie [.pd (tieD p), .int m] [] = .ok (.bl true) [] := by
  refine runF_pure (S' := []) ?_
  have h1 := fun σ S => callF_pd (n := 2) (are_below_nat [p.1, p.2] m (by simp)) rfl rfl rfl rfl σ S
  have e : ([p.1, p.2].all fun x => decide (x < m)) = true := by simp; omega
  rw [e] at h1
  simp only [List.map_cons, List.map_nil] at h1
  simp [m_is_tie, startD, h1, opEq_int, h.1]
theorem tgSq_tup (t : TgsD) (ds : List PyData) (σ : Sl) : tgSq t (.pd (.tuple ds)) σ = t (ds.map .pd) σ := rfl
theorem is_web_ok {n : Nat} {ts : List (Nat × Nat)} (w : GW n ts) : f_is_web [.pd (webD n ts)] [] = .ok (.bl true) [] := by
  refine runF_pure (S' := []) ?_
  have h1 := fun σ S => callF_pd (n := 2) (is_below_int n 13) rfl rfl rfl rfl σ S
  have e1 : (decide (0 ≤ (n : Int)) && decide ((n : Int) < 13)) = true := by have := w.n12; simp; omega
  rw [e1] at h1
  have h2 := fun σ S => callF_pd (n := 1) (are_rising_of tieD tlt (fun p q S h => by rw [lt_tie, decide_eq_true h]) ts w.ris (by have := w.len; omega)) rfl rfl rfl rfl σ S
  have hn : decide ((n : Int) = 0) = false := by have := w.n1; simp; omega
  have e : eLc [3] (iSeq (eVar 2)) (tgName 3) (mRet true) qis_web_e1 [some (.pd (webD n ts)), some (.int n), some (.tup (ts.map tieD)), none] [] = .ok (.lst (ts.map fun _ => .bool true)) [] := by
    refine eLc_all (gu := .no) ts (fun p => .pd (tieD p)) (fun _ => .bool true) ((iSeq_tup (xs := ts.map tieD) (by simp)).trans (by rw [List.map_map]; rfl)) (by exact trivial) (fun p hp => ⟨_, rfl, ?_⟩) (le_size (by have := w.len; omega))
    have h3 := fun σ S => callF_pd (n := 2) (is_tie_nat p n (w.tie p hp)) rfl rfl rfl rfl σ S
    simp only [Out.bind_ok, mBind_app, mRet_app, eVar_0, eVar_1, eVar_2, eVar_3, eVar_4, eVar_5, eVar_6, eVar_7, eVar_8, eVar_9, eVar_10, eK_app, eOp_app, asB_bl, eTest_app, tru_bl, eTru_app, eChain_app, bNot_app, bAnd_app, bOr_app, eNot_app, eAnd_app, eOr_app, eIf_app, eUn_app, lNil_app, lCons_app, eTup_app, eLst_app, eLstM_app, eCall_app, eSlice_app, asI_int, eMeth_app, sNext_app, sNever_app, sBrk_app, sCont_app, sSeq_app, sSet_app, sExpr_app, sRet_app, sRetN_app, sIf_app, sAsg_app, eRg1_app, eIsI_app, opAdd_int, opSub_int, opCmpI_int, opLt_int, opEq_int, tgName_app, tgNil_app, tgCons_app, tgTup_app, clr_nil', clr_cons', ofO_some, opIx_tup0, opIx_tup1, fLen_tup, fLen_lst, fTuple_lst, startD, isTy, List.map_cons, List.map_nil, List.length_cons, List.length_nil, List.cons_append, List.nil_append, List.replicate, Nat.reduceAdd, Nat.reduceSub, List.set_cons_zero, List.set_cons_succ, reduceIte, eq_self, Bool.false_eq_true, Bool.not_true, Bool.not_false, Option.bind_some, Bool.xor_false, Bool.xor_true, decide_true, decide_false, qis_web_e1, h3]
  simp only [Out.bind_ok, mBind_app, mRet_app, eVar_0, eVar_1, eVar_2, eVar_3, eVar_4, eVar_5, eVar_6, eVar_7, eVar_8, eVar_9, eVar_10, eK_app, eOp_app, asB_bl, eTest_app, tru_bl, eTru_app, eChain_app, bNot_app, bAnd_app, bOr_app, eNot_app, eAnd_app, eOr_app, eIf_app, eUn_app, lNil_app, lCons_app, eTup_app, eLst_app, eLstM_app, eCall_app, eSlice_app, asI_int, eMeth_app, sNext_app, sNever_app, sBrk_app, sCont_app, sSeq_app, sSet_app, sExpr_app, sRet_app, sRetN_app, sIf_app, sAsg_app, eRg1_app, eIsI_app, opAdd_int, opSub_int, opCmpI_int, opLt_int, opEq_int, tgName_app, tgNil_app, tgCons_app, tgTup_app, clr_nil', clr_cons', ofO_some, opIx_tup0, opIx_tup1, fLen_tup, fLen_lst, fTuple_lst, startD, isTy, List.map_cons, List.map_nil, List.length_cons, List.length_nil, List.cons_append, List.nil_append, List.replicate, Nat.reduceAdd, Nat.reduceSub, List.set_cons_zero, List.set_cons_succ, reduceIte, eq_self, Bool.false_eq_true, Bool.not_true, Bool.not_false, Option.bind_some, Bool.xor_false, Bool.xor_true, decide_true, decide_false, m_is_web, tgSq_tup, h1, hn, e, h2, fAll_map, show (12 : Int) + 1 = 13 from rfl, show (((0 + 1 + 1 : Nat) : Int) = 2) from rfl]
  simp
theorem need_web_ok {n : Nat} {ts : List (Nat × Nat)} (w : GW n ts) : f_need_web [.pd (webD n ts)] [] = .ok .non [] := by
  have h := fun σ S => callF_pd (n := 1) (is_web_ok w) rfl rfl rfl rfl σ S
  refine runF_next (S' := []) (σ := [some (.pd (webD n ts))]) ?_
  simp only [Out.bind_ok, mBind_app, mRet_app, eVar_0, eVar_1, eVar_2, eVar_3, eVar_4, eVar_5, eVar_6, eVar_7, eVar_8, eVar_9, eVar_10, eK_app, eOp_app, asB_bl, eTest_app, tru_bl, eTru_app, eChain_app, bNot_app, bAnd_app, bOr_app, eNot_app, eAnd_app, eOr_app, eIf_app, eUn_app, lNil_app, lCons_app, eTup_app, eLst_app, eLstM_app, eCall_app, eSlice_app, asI_int, eMeth_app, sNext_app, sNever_app, sBrk_app, sCont_app, sSeq_app, sSet_app, sExpr_app, sRet_app, sRetN_app, sIf_app, sAsg_app, eRg1_app, eIsI_app, opAdd_int, opSub_int, opCmpI_int, opLt_int, opEq_int, tgName_app, tgNil_app, tgCons_app, tgTup_app, clr_nil', clr_cons', ofO_some, opIx_tup0, opIx_tup1, fLen_tup, fLen_lst, fTuple_lst, startD, isTy, List.map_cons, List.map_nil, List.length_cons, List.length_nil, List.cons_append, List.nil_append, List.replicate, Nat.reduceAdd, Nat.reduceSub, List.set_cons_zero, List.set_cons_succ, reduceIte, eq_self, Bool.false_eq_true, Bool.not_true, Bool.not_false, Option.bind_some, Bool.xor_false, Bool.xor_true, decide_true, decide_false, m_need_web, h]
theorem need_seat_ok {n : Nat} {ts : List (Nat × Nat)} {s : Nat} (hs : s < n) : f_need_seat [.pd (webD n ts), .int s] [] = .ok .non [] := by
  have h := fun σ S => callF_pd (n := 2) (is_below_nat s n) rfl rfl rfl rfl σ S
  rw [decide_eq_true hs] at h
  refine runF_next (S' := []) (σ := [some (.pd (webD n ts)), some (.int s)]) ?_
  simp only [Out.bind_ok, mBind_app, mRet_app, eVar_0, eVar_1, eVar_2, eVar_3, eVar_4, eVar_5, eVar_6, eVar_7, eVar_8, eVar_9, eVar_10, eK_app, eOp_app, asB_bl, eTest_app, tru_bl, eTru_app, eChain_app, bNot_app, bAnd_app, bOr_app, eNot_app, eAnd_app, eOr_app, eIf_app, eUn_app, lNil_app, lCons_app, eTup_app, eLst_app, eLstM_app, eCall_app, eSlice_app, asI_int, eMeth_app, sNext_app, sNever_app, sBrk_app, sCont_app, sSeq_app, sSet_app, sExpr_app, sRet_app, sRetN_app, sIf_app, sAsg_app, eRg1_app, eIsI_app, opAdd_int, opSub_int, opCmpI_int, opLt_int, opEq_int, tgName_app, tgNil_app, tgCons_app, tgTup_app, clr_nil', clr_cons', ofO_some, opIx_tup0, opIx_tup1, fLen_tup, fLen_lst, fTuple_lst, startD, isTy, List.map_cons, List.map_nil, List.length_cons, List.length_nil, List.cons_append, List.nil_append, List.replicate, Nat.reduceAdd, Nat.reduceSub, List.set_cons_zero, List.set_cons_succ, reduceIte, eq_self, Bool.false_eq_true, Bool.not_true, Bool.not_false, Option.bind_some, Bool.xor_false, Bool.xor_true, decide_true, decide_false, m_need_seat, h]
def nb (ts : List (Nat × Nat)) (s : Nat) : List Nat := (ts.filter fun p => decide (p.1 = s) || decide (p.2 = s)).map fun p => p.1 + p.2 - s
theorem eqvI (a b : Nat) : PyData.eqv (.int a) (.int b) = decide (a = b) := by
  by_cases h : a = b
  · subst h; simp [PyData.eqv]
  · have : ¬ ((a : Int) = (b : Int)) := by omega
    simp [PyData.eqv, h, this]
theorem okEq_tup2 (a b : Int) : okEq (.tuple [.int a, .int b]) = true := by
  unfold okEq SeqAt.shaped; simp [PyData.canLay0, PyData.canLayAll0, PyData.depth, PyData.depthAll]
theorem neighbours_by_ok {n : Nat} {ts : List (Nat × Nat)} (s : Nat) (hl : ts.length ≤ 1000) : f_neighbours_by [.pd (webD n ts), .int s] [] = .ok (.tup ((nb ts s).map nD)) [] := by
  refine runF_pure (S' := []) ?_
  have e : eLc [2, 3] (iSeq (eOp opIx (eVar 0) (eK (.int 1)))) (tgTup (tgCons (tgName 2) (tgCons (tgName 3) tgNil))) qneighbours_by_t1 qneighbours_by_e2 [some (.pd (webD n ts)), some (.int s), none, none] [] =
      .ok (.lst ((ts.filter fun p => decide (p.1 = s) || decide (p.2 = s)).map fun p => nD (p.1 + p.2 - s))) [] := by
    refine eLc_map (gu := .no) ts (fun p => .pd (tieD p)) _ (fun p => nD (p.1 + p.2 - s)) ((iSeq_tup (xs := ts.map tieD) (by simp only [Out.bind_ok, mBind_app, mRet_app, eVar_0, eVar_1, eVar_2, eVar_3, eVar_4, eVar_5, eVar_6, eVar_7, eVar_8, eVar_9, eVar_10, eK_app, eOp_app, asB_bl, eTest_app, tru_bl, eTru_app, eChain_app, bNot_app, bAnd_app, bOr_app, eNot_app, eAnd_app, eOr_app, eIf_app, eUn_app, lNil_app, lCons_app, eTup_app, eLst_app, eLstM_app, eCall_app, eSlice_app, asI_int, eMeth_app, sNext_app, sNever_app, sBrk_app, sCont_app, sSeq_app, sSet_app, sExpr_app, sRet_app, sRetN_app, sIf_app, sAsg_app, eRg1_app, eIsI_app, opAdd_int, opSub_int, opCmpI_int, opLt_int, opEq_int, tgName_app, tgNil_app, tgCons_app, tgTup_app, clr_nil', clr_cons', ofO_some, opIx_tup0, opIx_tup1, fLen_tup, fLen_lst, fTuple_lst, startD, isTy, List.map_cons, List.map_nil, List.length_cons, List.length_nil, List.cons_append, List.nil_append, List.replicate, Nat.reduceAdd, Nat.reduceSub, List.set_cons_zero, List.set_cons_succ, reduceIte, eq_self, Bool.false_eq_true, Bool.not_true, Bool.not_false, Option.bind_some, Bool.xor_false, Bool.xor_true, decide_true, decide_false])).trans (by rw [List.map_map]; rfl)) (by exact trivial) (fun p hp => ⟨_, rfl, ?_, fun h => ?_⟩) (le_size (by omega))
    · simp only [Out.bind_ok, mBind_app, mRet_app, eVar_0, eVar_1, eVar_2, eVar_3, eVar_4, eVar_5, eVar_6, eVar_7, eVar_8, eVar_9, eVar_10, eK_app, eOp_app, asB_bl, eTest_app, tru_bl, eTru_app, eChain_app, bNot_app, bAnd_app, bOr_app, eNot_app, eAnd_app, eOr_app, eIf_app, eUn_app, lNil_app, lCons_app, eTup_app, eLst_app, eLstM_app, eCall_app, eSlice_app, asI_int, eMeth_app, sNext_app, sNever_app, sBrk_app, sCont_app, sSeq_app, sSet_app, sExpr_app, sRet_app, sRetN_app, sIf_app, sAsg_app, eRg1_app, eIsI_app, opAdd_int, opSub_int, opCmpI_int, opLt_int, opEq_int, tgName_app, tgNil_app, tgCons_app, tgTup_app, clr_nil', clr_cons', ofO_some, opIx_tup0, opIx_tup1, fLen_tup, fLen_lst, fTuple_lst, startD, isTy, List.map_cons, List.map_nil, List.length_cons, List.length_nil, List.cons_append, List.nil_append, List.replicate, Nat.reduceAdd, Nat.reduceSub, List.set_cons_zero, List.set_cons_succ, reduceIte, eq_self, Bool.false_eq_true, Bool.not_true, Bool.not_false, Option.bind_some, Bool.xor_false, Bool.xor_true, decide_true, decide_false, qneighbours_by_t1, mkTup, pdL_cons, pdL_nil, Option.map_some]
      rw [if_pos (le_size (by omega))]
      simp only [Out.bind_ok, mBind_app, mRet_app, eVar_0, eVar_1, eVar_2, eVar_3, eVar_4, eVar_5, eVar_6, eVar_7, eVar_8, eVar_9, eVar_10, eK_app, eOp_app, asB_bl, eTest_app, tru_bl, eTru_app, eChain_app, bNot_app, bAnd_app, bOr_app, eNot_app, eAnd_app, eOr_app, eIf_app, eUn_app, lNil_app, lCons_app, eTup_app, eLst_app, eLstM_app, eCall_app, eSlice_app, asI_int, eMeth_app, sNext_app, sNever_app, sBrk_app, sCont_app, sSeq_app, sSet_app, sExpr_app, sRet_app, sRetN_app, sIf_app, sAsg_app, eRg1_app, eIsI_app, opAdd_int, opSub_int, opCmpI_int, opLt_int, opEq_int, tgName_app, tgNil_app, tgCons_app, tgTup_app, clr_nil', clr_cons', ofO_some, opIx_tup0, opIx_tup1, fLen_tup, fLen_lst, fTuple_lst, startD, isTy, List.map_cons, List.map_nil, List.length_cons, List.length_nil, List.cons_append, List.nil_append, List.replicate, Nat.reduceAdd, Nat.reduceSub, List.set_cons_zero, List.set_cons_succ, reduceIte, eq_self, Bool.false_eq_true, Bool.not_true, Bool.not_false, Option.bind_some, Bool.xor_false, Bool.xor_true, decide_true, decide_false, opIn, okEq_int, okEq_tup2, Bool.and_self]
      simp only [List.any_cons, List.any_nil, eqvI, Bool.or_false, Out.bind_ok, mBind_app, mRet_app, eVar_0, eVar_1, eVar_2, eVar_3, eVar_4, eVar_5, eVar_6, eVar_7, eVar_8, eVar_9, eVar_10, eK_app, eOp_app, asB_bl, eTest_app, tru_bl, eTru_app, eChain_app, bNot_app, bAnd_app, bOr_app, eNot_app, eAnd_app, eOr_app, eIf_app, eUn_app, lNil_app, lCons_app, eTup_app, eLst_app, eLstM_app, eCall_app, eSlice_app, asI_int, eMeth_app, sNext_app, sNever_app, sBrk_app, sCont_app, sSeq_app, sSet_app, sExpr_app, sRet_app, sRetN_app, sIf_app, sAsg_app, eRg1_app, eIsI_app, opAdd_int, opSub_int, opCmpI_int, opLt_int, opEq_int, tgName_app, tgNil_app, tgCons_app, tgTup_app, clr_nil', clr_cons', ofO_some, opIx_tup0, opIx_tup1, fLen_tup, fLen_lst, fTuple_lst, startD, isTy, List.map_cons, List.map_nil, List.length_cons, List.length_nil, List.cons_append, List.nil_append, List.replicate, Nat.reduceAdd, Nat.reduceSub, List.set_cons_zero, List.set_cons_succ, reduceIte, eq_self, Bool.false_eq_true, Bool.not_true, Bool.not_false, Option.bind_some, Bool.xor_false, Bool.xor_true, decide_true, decide_false]
    · simp only [Out.bind_ok, mBind_app, mRet_app, eVar_0, eVar_1, eVar_2, eVar_3, eVar_4, eVar_5, eVar_6, eVar_7, eVar_8, eVar_9, eVar_10, eK_app, eOp_app, asB_bl, eTest_app, tru_bl, eTru_app, eChain_app, bNot_app, bAnd_app, bOr_app, eNot_app, eAnd_app, eOr_app, eIf_app, eUn_app, lNil_app, lCons_app, eTup_app, eLst_app, eLstM_app, eCall_app, eSlice_app, asI_int, eMeth_app, sNext_app, sNever_app, sBrk_app, sCont_app, sSeq_app, sSet_app, sExpr_app, sRet_app, sRetN_app, sIf_app, sAsg_app, eRg1_app, eIsI_app, opAdd_int, opSub_int, opCmpI_int, opLt_int, opEq_int, tgName_app, tgNil_app, tgCons_app, tgTup_app, clr_nil', clr_cons', ofO_some, opIx_tup0, opIx_tup1, fLen_tup, fLen_lst, fTuple_lst, startD, isTy, List.map_cons, List.map_nil, List.length_cons, List.length_nil, List.cons_append, List.nil_append, List.replicate, Nat.reduceAdd, Nat.reduceSub, List.set_cons_zero, List.set_cons_succ, reduceIte, eq_self, Bool.false_eq_true, Bool.not_true, Bool.not_false, Option.bind_some, Bool.xor_false, Bool.xor_true, decide_true, decide_false, qneighbours_by_e2]
      simp only [Bool.or_eq_true, decide_eq_true_eq] at h
      show Out.ok (D.int (((p.1 : Int) + (p.2 : Int)) - (s : Int))) [] = Out.ok (D.int ((p.1 + p.2 - s : Nat) : Int)) []
      rw [show ((p.1 : Int) + (p.2 : Int)) - (s : Int) = ((p.1 + p.2 - s : Nat) : Int) by omega]
  simp only [Out.bind_ok, mBind_app, mRet_app, eVar_0, eVar_1, eVar_2, eVar_3, eVar_4, eVar_5, eVar_6, eVar_7, eVar_8, eVar_9, eVar_10, eK_app, eOp_app, asB_bl, eTest_app, tru_bl, eTru_app, eChain_app, bNot_app, bAnd_app, bOr_app, eNot_app, eAnd_app, eOr_app, eIf_app, eUn_app, lNil_app, lCons_app, eTup_app, eLst_app, eLstM_app, eCall_app, eSlice_app, asI_int, eMeth_app, sNext_app, sNever_app, sBrk_app, sCont_app, sSeq_app, sSet_app, sExpr_app, sRet_app, sRetN_app, sIf_app, sAsg_app, eRg1_app, eIsI_app, opAdd_int, opSub_int, opCmpI_int, opLt_int, opEq_int, tgName_app, tgNil_app, tgCons_app, tgTup_app, clr_nil', clr_cons', ofO_some, opIx_tup0, opIx_tup1, fLen_tup, fLen_lst, fTuple_lst, startD, isTy, List.map_cons, List.map_nil, List.length_cons, List.length_nil, List.cons_append, List.nil_append, List.replicate, Nat.reduceAdd, Nat.reduceSub, List.set_cons_zero, List.set_cons_succ, reduceIte, eq_self, Bool.false_eq_true, Bool.not_true, Bool.not_false, Option.bind_some, Bool.xor_false, Bool.xor_true, decide_true, decide_false, m_neighbours_by, e]
  unfold nb
  rw [List.map_map]
  rfl
theorem neighbours_ok {n : Nat} {ts : List (Nat × Nat)} (w : GW n ts) {s : Nat} (hs : s < n) : f_neighbours [.pd (webD n ts), .int s] [] = .ok (.tup ((nb ts s).map nD)) [] := by
  refine runF_pure (S' := []) ?_
  have h1 := fun σ S => callF_pd (n := 1) (need_web_ok w) rfl rfl rfl rfl σ S
  have h2 := fun σ S => callF_pd (n := 2) (need_seat_ok (ts := ts) hs) rfl rfl rfl rfl σ S
  have h3 := fun σ S => callF_pd (n := 2) (neighbours_by_ok (n := n) s w.len) rfl rfl rfl rfl σ S
  simp only [m_neighbours, Out.bind_ok, mBind_app, mRet_app, eVar_0, eVar_1, eVar_2, eVar_3, eVar_4, eVar_5, eVar_6, eVar_7, eVar_8, eVar_9, eVar_10, eK_app, eOp_app, asB_bl, eTest_app, tru_bl, eTru_app, eChain_app, bNot_app, bAnd_app, bOr_app, eNot_app, eAnd_app, eOr_app, eIf_app, eUn_app, lNil_app, lCons_app, eTup_app, eLst_app, eLstM_app, eCall_app, eSlice_app, asI_int, eMeth_app, sNext_app, sNever_app, sBrk_app, sCont_app, sSeq_app, sSet_app, sExpr_app, sRet_app, sRetN_app, sIf_app, sAsg_app, eRg1_app, eIsI_app, opAdd_int, opSub_int, opCmpI_int, opLt_int, opEq_int, tgName_app, tgNil_app, tgCons_app, tgTup_app, clr_nil', clr_cons', ofO_some, opIx_tup0, opIx_tup1, fLen_tup, fLen_lst, fTuple_lst, startD, isTy, List.map_cons, List.map_nil, List.length_cons, List.length_nil, List.cons_append, List.nil_append, List.replicate, Nat.reduceAdd, Nat.reduceSub, List.set_cons_zero, List.set_cons_succ, reduceIte, eq_self, Bool.false_eq_true, Bool.not_true, Bool.not_false, Option.bind_some, Bool.xor_false, Bool.xor_true, decide_true, decide_false, h1, h2, h3]
theorem beside_ok {n : Nat} {ts : List (Nat × Nat)} (s : Nat) (hl : ts.length ≤ 1000) : f__law_beside [.pd (webD n ts), .int s] [] = .ok (.lst ((nb ts s).map nD)) [] := by
  refine runF_pure (S' := []) ?_
  have e : eLc [2, 3] (iSeq (eOp opIx (eVar 0) (eK (.int 1)))) (tgTup (tgCons (tgName 2) (tgCons (tgName 3) tgNil))) q_law_beside_t1 q_law_beside_e2 [some (.pd (webD n ts)), some (.int s), none, none] [] =
      .ok (.lst ((ts.filter fun p => decide (p.1 = s) || decide (p.2 = s)).map fun p => nD (p.1 + p.2 - s))) [] := by
    refine eLc_map (gu := .no) ts (fun p => .pd (tieD p)) _ (fun p => nD (p.1 + p.2 - s)) ((iSeq_tup (xs := ts.map tieD) (by simp only [Out.bind_ok, mBind_app, mRet_app, eVar_0, eVar_1, eVar_2, eVar_3, eVar_4, eVar_5, eVar_6, eVar_7, eVar_8, eVar_9, eVar_10, eK_app, eOp_app, asB_bl, eTest_app, tru_bl, eTru_app, eChain_app, bNot_app, bAnd_app, bOr_app, eNot_app, eAnd_app, eOr_app, eIf_app, eUn_app, lNil_app, lCons_app, eTup_app, eLst_app, eLstM_app, eCall_app, eSlice_app, asI_int, eMeth_app, sNext_app, sNever_app, sBrk_app, sCont_app, sSeq_app, sSet_app, sExpr_app, sRet_app, sRetN_app, sIf_app, sAsg_app, eRg1_app, eIsI_app, opAdd_int, opSub_int, opCmpI_int, opLt_int, opEq_int, tgName_app, tgNil_app, tgCons_app, tgTup_app, clr_nil', clr_cons', ofO_some, opIx_tup0, opIx_tup1, fLen_tup, fLen_lst, fTuple_lst, startD, isTy, List.map_cons, List.map_nil, List.length_cons, List.length_nil, List.cons_append, List.nil_append, List.replicate, Nat.reduceAdd, Nat.reduceSub, List.set_cons_zero, List.set_cons_succ, reduceIte, eq_self, Bool.false_eq_true, Bool.not_true, Bool.not_false, Option.bind_some, Bool.xor_false, Bool.xor_true, decide_true, decide_false])).trans (by rw [List.map_map]; rfl)) (by exact trivial) (fun p hp => ⟨_, rfl, ?_, fun h => ?_⟩) (le_size (by omega))
    · simp only [Out.bind_ok, mBind_app, mRet_app, eVar_0, eVar_1, eVar_2, eVar_3, eVar_4, eVar_5, eVar_6, eVar_7, eVar_8, eVar_9, eVar_10, eK_app, eOp_app, asB_bl, eTest_app, tru_bl, eTru_app, eChain_app, bNot_app, bAnd_app, bOr_app, eNot_app, eAnd_app, eOr_app, eIf_app, eUn_app, lNil_app, lCons_app, eTup_app, eLst_app, eLstM_app, eCall_app, eSlice_app, asI_int, eMeth_app, sNext_app, sNever_app, sBrk_app, sCont_app, sSeq_app, sSet_app, sExpr_app, sRet_app, sRetN_app, sIf_app, sAsg_app, eRg1_app, eIsI_app, opAdd_int, opSub_int, opCmpI_int, opLt_int, opEq_int, tgName_app, tgNil_app, tgCons_app, tgTup_app, clr_nil', clr_cons', ofO_some, opIx_tup0, opIx_tup1, fLen_tup, fLen_lst, fTuple_lst, startD, isTy, List.map_cons, List.map_nil, List.length_cons, List.length_nil, List.cons_append, List.nil_append, List.replicate, Nat.reduceAdd, Nat.reduceSub, List.set_cons_zero, List.set_cons_succ, reduceIte, eq_self, Bool.false_eq_true, Bool.not_true, Bool.not_false, Option.bind_some, Bool.xor_false, Bool.xor_true, decide_true, decide_false, q_law_beside_t1, mkTup, pdL_cons, pdL_nil, Option.map_some]
      rw [if_pos (le_size (by omega))]
      simp only [Out.bind_ok, mBind_app, mRet_app, eVar_0, eVar_1, eVar_2, eVar_3, eVar_4, eVar_5, eVar_6, eVar_7, eVar_8, eVar_9, eVar_10, eK_app, eOp_app, asB_bl, eTest_app, tru_bl, eTru_app, eChain_app, bNot_app, bAnd_app, bOr_app, eNot_app, eAnd_app, eOr_app, eIf_app, eUn_app, lNil_app, lCons_app, eTup_app, eLst_app, eLstM_app, eCall_app, eSlice_app, asI_int, eMeth_app, sNext_app, sNever_app, sBrk_app, sCont_app, sSeq_app, sSet_app, sExpr_app, sRet_app, sRetN_app, sIf_app, sAsg_app, eRg1_app, eIsI_app, opAdd_int, opSub_int, opCmpI_int, opLt_int, opEq_int, tgName_app, tgNil_app, tgCons_app, tgTup_app, clr_nil', clr_cons', ofO_some, opIx_tup0, opIx_tup1, fLen_tup, fLen_lst, fTuple_lst, startD, isTy, List.map_cons, List.map_nil, List.length_cons, List.length_nil, List.cons_append, List.nil_append, List.replicate, Nat.reduceAdd, Nat.reduceSub, List.set_cons_zero, List.set_cons_succ, reduceIte, eq_self, Bool.false_eq_true, Bool.not_true, Bool.not_false, Option.bind_some, Bool.xor_false, Bool.xor_true, decide_true, decide_false, opIn, okEq_int, okEq_tup2, Bool.and_self]
      simp only [List.any_cons, List.any_nil, eqvI, Bool.or_false, Out.bind_ok, mBind_app, mRet_app, eVar_0, eVar_1, eVar_2, eVar_3, eVar_4, eVar_5, eVar_6, eVar_7, eVar_8, eVar_9, eVar_10, eK_app, eOp_app, asB_bl, eTest_app, tru_bl, eTru_app, eChain_app, bNot_app, bAnd_app, bOr_app, eNot_app, eAnd_app, eOr_app, eIf_app, eUn_app, lNil_app, lCons_app, eTup_app, eLst_app, eLstM_app, eCall_app, eSlice_app, asI_int, eMeth_app, sNext_app, sNever_app, sBrk_app, sCont_app, sSeq_app, sSet_app, sExpr_app, sRet_app, sRetN_app, sIf_app, sAsg_app, eRg1_app, eIsI_app, opAdd_int, opSub_int, opCmpI_int, opLt_int, opEq_int, tgName_app, tgNil_app, tgCons_app, tgTup_app, clr_nil', clr_cons', ofO_some, opIx_tup0, opIx_tup1, fLen_tup, fLen_lst, fTuple_lst, startD, isTy, List.map_cons, List.map_nil, List.length_cons, List.length_nil, List.cons_append, List.nil_append, List.replicate, Nat.reduceAdd, Nat.reduceSub, List.set_cons_zero, List.set_cons_succ, reduceIte, eq_self, Bool.false_eq_true, Bool.not_true, Bool.not_false, Option.bind_some, Bool.xor_false, Bool.xor_true, decide_true, decide_false]
    · simp only [Out.bind_ok, mBind_app, mRet_app, eVar_0, eVar_1, eVar_2, eVar_3, eVar_4, eVar_5, eVar_6, eVar_7, eVar_8, eVar_9, eVar_10, eK_app, eOp_app, asB_bl, eTest_app, tru_bl, eTru_app, eChain_app, bNot_app, bAnd_app, bOr_app, eNot_app, eAnd_app, eOr_app, eIf_app, eUn_app, lNil_app, lCons_app, eTup_app, eLst_app, eLstM_app, eCall_app, eSlice_app, asI_int, eMeth_app, sNext_app, sNever_app, sBrk_app, sCont_app, sSeq_app, sSet_app, sExpr_app, sRet_app, sRetN_app, sIf_app, sAsg_app, eRg1_app, eIsI_app, opAdd_int, opSub_int, opCmpI_int, opLt_int, opEq_int, tgName_app, tgNil_app, tgCons_app, tgTup_app, clr_nil', clr_cons', ofO_some, opIx_tup0, opIx_tup1, fLen_tup, fLen_lst, fTuple_lst, startD, isTy, List.map_cons, List.map_nil, List.length_cons, List.length_nil, List.cons_append, List.nil_append, List.replicate, Nat.reduceAdd, Nat.reduceSub, List.set_cons_zero, List.set_cons_succ, reduceIte, eq_self, Bool.false_eq_true, Bool.not_true, Bool.not_false, Option.bind_some, Bool.xor_false, Bool.xor_true, decide_true, decide_false, q_law_beside_e2]
      simp only [Bool.or_eq_true, decide_eq_true_eq] at h
      show Out.ok (D.int (((p.1 : Int) + (p.2 : Int)) - (s : Int))) [] = Out.ok (D.int ((p.1 + p.2 - s : Nat) : Int)) []
      rw [show ((p.1 : Int) + (p.2 : Int)) - (s : Int) = ((p.1 + p.2 - s : Nat) : Int) by omega]
  simp only [Out.bind_ok, mBind_app, mRet_app, eVar_0, eVar_1, eVar_2, eVar_3, eVar_4, eVar_5, eVar_6, eVar_7, eVar_8, eVar_9, eVar_10, eK_app, eOp_app, asB_bl, eTest_app, tru_bl, eTru_app, eChain_app, bNot_app, bAnd_app, bOr_app, eNot_app, eAnd_app, eOr_app, eIf_app, eUn_app, lNil_app, lCons_app, eTup_app, eLst_app, eLstM_app, eCall_app, eSlice_app, asI_int, eMeth_app, sNext_app, sNever_app, sBrk_app, sCont_app, sSeq_app, sSet_app, sExpr_app, sRet_app, sRetN_app, sIf_app, sAsg_app, eRg1_app, eIsI_app, opAdd_int, opSub_int, opCmpI_int, opLt_int, opEq_int, tgName_app, tgNil_app, tgCons_app, tgTup_app, clr_nil', clr_cons', ofO_some, opIx_tup0, opIx_tup1, fLen_tup, fLen_lst, fTuple_lst, startD, isTy, List.map_cons, List.map_nil, List.length_cons, List.length_nil, List.cons_append, List.nil_append, List.replicate, Nat.reduceAdd, Nat.reduceSub, List.set_cons_zero, List.set_cons_succ, reduceIte, eq_self, Bool.false_eq_true, Bool.not_true, Bool.not_false, Option.bind_some, Bool.xor_false, Bool.xor_true, decide_true, decide_false, m__law_beside, e]
  unfold nb
  rw [List.map_map]
  rfl
end K01
end
section
namespace K01
open PySem PySem.Spec PyProof.Rows L2 DL
/-! ### what is drawn -/
abbrev poolOb (a b c : Int) : Ob := .lst [.int a, .int b, .int c]
def IsPool (ob : Ob) : Prop := ∃ a b c : Int, 0 ≤ a ∧ 0 ≤ b ∧ 0 ≤ c ∧ ob = poolOb a b c
theorem IsPool.pd {ob : Ob} (h : IsPool ob) : pdOb ob = true := by
  obtain ⟨a, b, c, _, _, _, rfl⟩ := h
  rfl
theorem opMod_pos {i j : Int} (h : 0 < j) (S : Sto) : opMod (.pd (.int i)) (.pd (.int j)) S = .ok (.int (i % j)) S := by
  unfold opMod; dsimp only; rw [if_pos h]
theorem opDiv_pos {i j : Int} (h : 0 < j) (h2 : j < 1073741824) (S : Sto) : opDiv (.pd (.int i)) (.pd (.int j)) S = .ok (.int (i / j)) S := by
  unfold opDiv; dsimp only; rw [if_pos ⟨h, h2⟩]
theorem opMul_l {i j : Int} (h : i.natAbs < 2 ^ 64) (S : Sto) : opMul2 (.pd (.int i)) (.pd (.int j)) S = .ok (.int (i * j)) S := by
  show opMul (.pd (.int i)) (.pd (.int j)) S = _
  unfold opMul; dsimp only; rw [if_pos (.inl h)]
theorem opMul_r {i j : Int} (h : j.natAbs < 2 ^ 64) (S : Sto) : opMul2 (.pd (.int i)) (.pd (.int j)) S = .ok (.int (i * j)) S := by
  show opMul (.pd (.int i)) (.pd (.int j)) S = _
  unfold opMul; dsimp only; rw [if_pos (.inr h)]
theorem pool0 (a b c : Int) : opIx (.ref 0) (.int 0) [poolOb a b c] = .ok (.int a) [poolOb a b c] := by rw [opIx_ref rfl]; simp
theorem pool1 (a b c : Int) : opIx (.ref 0) (.int 1) [poolOb a b c] = .ok (.int b) [poolOb a b c] := by rw [opIx_ref rfl]; simp
theorem pool2 (a b c : Int) : opIx (.ref 0) (.int 2) [poolOb a b c] = .ok (.int c) [poolOb a b c] := by rw [opIx_ref rfl]; simp
theorem put0 (a b c x : Int) : setIx [poolOb a b c] (.ref 0) (.int 0) (.int x) = some [poolOb x b c] := rfl
theorem put2 (a b c x : Int) : setIx [poolOb a b c] (.ref 0) (.int 2) (.int x) = some [poolOb a b x] := rfl
theorem mod_bound {i j : Int} (h : 0 < j) : 0 ≤ i % j ∧ i % j < j := ⟨Int.emod_nonneg _ (by omega), Int.emod_lt_of_pos _ h⟩
theorem take_body {a b c : Int} (ha : 0 ≤ a) (hb : 0 ≤ b) (hc : 0 ≤ c) {many : Int} (h1 : 1 ≤ many) (h2 : many ≤ 1000000) : ∃ (x : Int) (ob : Ob) (S' : Sto), 0 ≤ x ∧ x < many ∧ IsPool ob ∧ S' = [ob] ∧ m__law_take [some (.ref 0), some (.int many), none, none, none] [poolOb a b c] = .ok (.ret (.int x)) S' := by
  have hm : 0 < many := by omega
  by_cases h : 0 < a
  · obtain ⟨m1, m2⟩ := mod_bound (i := a) hm
    refine ⟨a % many, poolOb (a / many) b c, _, m1, m2, ⟨_, _, _, Int.ediv_nonneg ha (by omega), hb, hc, rfl⟩, rfl, ?_⟩
    simp only [m__law_take, Out.bind_ok, mBind_app, mRet_app, eVar_0, eVar_1, eVar_2, eVar_3, eVar_4, eVar_5, eVar_6, eVar_7, eVar_8, eVar_9, eVar_10, eK_app, eOp_app, asB_bl, eTest_app, tru_bl, eTru_app, eChain_app, bNot_app, bAnd_app, bOr_app, eNot_app, eAnd_app, eOr_app, eIf_app, eUn_app, lNil_app, lCons_app, eTup_app, eLst_app, eLstM_app, eCall_app, eSlice_app, asI_int, eMeth_app, sNext_app, sNever_app, sBrk_app, sCont_app, sSeq_app, sSet_app, sExpr_app, sRet_app, sRetN_app, sIf_app, sAsg_app, eRg1_app, eIsI_app, opAdd_int, opSub_int, opCmpI_int, opLt_int, opEq_int, tgName_app, tgNil_app, tgCons_app, tgTup_app, clr_nil', clr_cons', ofO_some, opIx_tup0, opIx_tup1, fLen_tup, fLen_lst, fTuple_lst, startD, isTy, List.map_cons, List.map_nil, List.length_cons, List.length_nil, List.cons_append, List.nil_append, List.replicate, Nat.reduceAdd, Nat.reduceSub, List.set_cons_zero, List.set_cons_succ, reduceIte, eq_self, Bool.false_eq_true, Bool.not_true, Bool.not_false, Option.bind_some, Bool.xor_false, Bool.xor_true, decide_true, decide_false, pool0, h, opMod_pos hm, sSetIx, opDiv_pos hm (show many < 1073741824 by omega), put0]
  · have hd : decide (0 < a) = false := decide_eq_false h
    obtain ⟨m1, m2⟩ := mod_bound (i := b + 1000003 * (c + 1)) (show (0 : Int) < 2305843009213693951 by omega)
    generalize hone : (b + 1000003 * (c + 1)) % 2305843009213693951 = one at m1 m2
    generalize htwo : (one * one % 2305843009213693921 * one + 8191 * (c + 1)) % 2305843009213693907 = two
    obtain ⟨k1, k2⟩ := mod_bound (i := two / 4096) hm
    refine ⟨two / 4096 % many, poolOb a b (c + 1), _, k1, k2, ⟨_, _, _, ha, hb, by omega, rfl⟩, rfl, ?_⟩
    simp only [m__law_take, Out.bind_ok, mBind_app, mRet_app, eVar_0, eVar_1, eVar_2, eVar_3, eVar_4, eVar_5, eVar_6, eVar_7, eVar_8, eVar_9, eVar_10, eK_app, eOp_app, asB_bl, eTest_app, tru_bl, eTru_app, eChain_app, bNot_app, bAnd_app, bOr_app, eNot_app, eAnd_app, eOr_app, eIf_app, eUn_app, lNil_app, lCons_app, eTup_app, eLst_app, eLstM_app, eCall_app, eSlice_app, asI_int, eMeth_app, sNext_app, sNever_app, sBrk_app, sCont_app, sSeq_app, sSet_app, sExpr_app, sRet_app, sRetN_app, sIf_app, sAsg_app, eRg1_app, eIsI_app, opAdd_int, opSub_int, opCmpI_int, opLt_int, opEq_int, tgName_app, tgNil_app, tgCons_app, tgTup_app, clr_nil', clr_cons', ofO_some, opIx_tup0, opIx_tup1, fLen_tup, fLen_lst, fTuple_lst, startD, isTy, List.map_cons, List.map_nil, List.length_cons, List.length_nil, List.cons_append, List.nil_append, List.replicate, Nat.reduceAdd, Nat.reduceSub, List.set_cons_zero, List.set_cons_succ, reduceIte, eq_self, Bool.false_eq_true, Bool.not_true, Bool.not_false, Option.bind_some, Bool.xor_false, Bool.xor_true, decide_true, decide_false, pool0, hd, sSetIx, pool2, put2, pool1, opMul_l (show (1000003 : Int).natAbs < 2 ^ 64 by decide), opMul_l (show (8191 : Int).natAbs < 2 ^ 64 by decide), opMod_pos (show (0 : Int) < 2305843009213693951 by omega), hone,
      opMul_l (show one.natAbs < 2 ^ 64 by omega), opMod_pos (show (0 : Int) < 2305843009213693921 by omega), opMul_r (show one.natAbs < 2 ^ 64 by omega), opMod_pos (show (0 : Int) < 2305843009213693907 by omega), htwo, opDiv_pos (show (0 : Int) < 4096 by omega) (show (4096 : Int) < 1073741824 by omega), opMod_pos hm]
theorem take_ok {ob : Ob} (hp : IsPool ob) {many : Nat} (h1 : 1 ≤ many) (h2 : many ≤ 1000000) : ∃ (x : Nat) (ob' : Ob), x < many ∧ IsPool ob' ∧ f__law_take [.ref 0, .int many] [ob] = .ok (.int x) [ob'] := by
  obtain ⟨a, b, c, ha, hb, hc, rfl⟩ := hp
  obtain ⟨x, ob', S', hx0, hx, hp', rfl, e⟩ := take_body ha hb hc (many := many) (by omega) (by omega)
  obtain ⟨n, rfl⟩ := Int.eq_ofNat_of_zero_le hx0
  refine ⟨n, ob', by omega, hp', ?_⟩
  unfold f__law_take runF
  show (match m__law_take [some (.ref 0), some (.int many), none, none, none] [poolOb a b c] with | .ok (.ret d) S' => fin 1 d S' | .ok (.next _) S' => fin 1 .non S' | .ok _ _ => .stuck | .exc e _ S' => _ | .stuck => .stuck) = _
  rw [e]
  show fin 1 (.int n) [ob'] = _
  unfold fin
  simp [hp'.pd]
/-- a number drawn by a caller -/
theorem take_call {ob : Ob} (hp : IsPool ob) {many : Nat} (h1 : 1 ≤ many) (h2 : many ≤ 1000000) {S : Sto} {p : Nat} (hS : S[p]? = some ob) (σ : Sl) : ∃ (x : Nat) (ob' : Ob), x < many ∧ IsPool ob' ∧ callF 2 f__law_take [.ref p, .int many] σ S = .ok (.int x) (S.set p ob') := by
  obtain ⟨x, ob', hx, hp', e⟩ := take_ok hp h1 h2
  exact ⟨x, ob', hx, hp', callF_ref hS hp.pd rfl e rfl rfl hp'.pd σ⟩
end K01
end
section
namespace K01
open PySem PySem.Spec PyProof.Rows L2 DL
open PySem.W (dataLe AllAlike Sortable)
theorem fLen_lstI (xs : List PyData) (S : Sto) : fLen [.lst xs] S = .ok (.int xs.length) S := fLen_lst xs
theorem pow10 (S : Sto) : opPow (.int 10) (.int 18) S = .ok (.int 1000000000000000000) S := by
  unfold opPow; dsimp only; rw [if_pos (by decide)]; rfl
theorem pool_body (ns : List Int) (k : Nat) : ∃ a b : Int, 0 ≤ a ∧ 0 ≤ b ∧ m__law_pool [some (.lst (ns.map .int)), some (.int k), none, none, none] [] = .ok (.ret (.ref 0)) [poolOb a b 0] := by
  have hcell : ∃ cell : Int, eIf (eTest (eOp opLt (eVar 1) (eCall fLen (lCons (eVar 0) lNil)))) (eOp opIx (eVar 0) (eVar 1)) (eK (.int 0)) [some (.lst (ns.map .int)), some (.int k), none, none, none] [] = .ok (.int cell) [] := by
    by_cases h : k < ns.length
    · refine ⟨ns[k], ?_⟩
      have h2 : decide ((k : Int) < ((ns.map PyData.int).length : Int)) = true := by rw [List.length_map]; exact decide_eq_true (by omega)
      simp only [Out.bind_ok, mBind_app, mRet_app, eVar_0, eVar_1, eVar_2, eVar_3, eVar_4, eVar_5, eVar_6, eVar_7, eVar_8, eVar_9, eVar_10, eK_app, eOp_app, asB_bl, eTest_app, tru_bl, eTru_app, eChain_app, bNot_app, bAnd_app, bOr_app, eNot_app, eAnd_app, eOr_app, eIf_app, eUn_app, lNil_app, lCons_app, eTup_app, eLst_app, eLstM_app, eCall_app, eSlice_app, asI_int, eMeth_app, sNext_app, sNever_app, sBrk_app, sCont_app, sSeq_app, sSet_app, sExpr_app, sRet_app, sRetN_app, sIf_app, sAsg_app, eRg1_app, eIsI_app, opAdd_int, opSub_int, opCmpI_int, opLt_int, opEq_int, tgName_app, tgNil_app, tgCons_app, tgTup_app, clr_nil', clr_cons', ofO_some, opIx_tup0, opIx_tup1, fLen_tup, fLen_lst, fTuple_lst, startD, isTy, List.map_cons, List.map_nil, List.length_cons, List.length_nil, List.cons_append, List.nil_append, List.replicate, Nat.reduceAdd, Nat.reduceSub, List.set_cons_zero, List.set_cons_succ, reduceIte, eq_self, Bool.false_eq_true, Bool.not_true, Bool.not_false, Option.bind_some, Bool.xor_false, Bool.xor_true, decide_true, decide_false, h2]
      exact opIx_lstN (by rw [List.getElem?_map, List.getElem?_eq_getElem h]; rfl)
    · refine ⟨0, ?_⟩
      have h2 : decide ((k : Int) < ((ns.map PyData.int).length : Int)) = false := by rw [List.length_map]; exact decide_eq_false (by omega)
      simp only [Out.bind_ok, mBind_app, mRet_app, eVar_0, eVar_1, eVar_2, eVar_3, eVar_4, eVar_5, eVar_6, eVar_7, eVar_8, eVar_9, eVar_10, eK_app, eOp_app, asB_bl, eTest_app, tru_bl, eTru_app, eChain_app, bNot_app, bAnd_app, bOr_app, eNot_app, eAnd_app, eOr_app, eIf_app, eUn_app, lNil_app, lCons_app, eTup_app, eLst_app, eLstM_app, eCall_app, eSlice_app, asI_int, eMeth_app, sNext_app, sNever_app, sBrk_app, sCont_app, sSeq_app, sSet_app, sExpr_app, sRet_app, sRetN_app, sIf_app, sAsg_app, eRg1_app, eIsI_app, opAdd_int, opSub_int, opCmpI_int, opLt_int, opEq_int, tgName_app, tgNil_app, tgCons_app, tgTup_app, clr_nil', clr_cons', ofO_some, opIx_tup0, opIx_tup1, fLen_tup, fLen_lst, fTuple_lst, startD, isTy, List.map_cons, List.map_nil, List.length_cons, List.length_nil, List.cons_append, List.nil_append, List.replicate, Nat.reduceAdd, Nat.reduceSub, List.set_cons_zero, List.set_cons_succ, reduceIte, eq_self, Bool.false_eq_true, Bool.not_true, Bool.not_false, Option.bind_some, Bool.xor_false, Bool.xor_true, decide_true, decide_false, h2]
  obtain ⟨cell, ec⟩ := hcell
  generalize hg : (if cell < 0 then -cell else cell) = great
  have hg0 : 0 ≤ great := by rw [← hg]; split <;> omega
  generalize hw : (great % 2147483629 * 48271 + 977 * (k : Int) + 2 * (if decide (cell < 0) = true then 1 else 0) + 5) % 2147483647 = mixed
  have hm0 : 0 ≤ mixed := by rw [← hw]; exact Int.emod_nonneg _ (by omega)
  have hi : fInt [.bl (decide (cell < 0))] [] = .ok (.int (if decide (cell < 0) = true then 1 else 0)) [] := rfl
  have e3 : fAbs [.int cell] [] = .ok (.int great) [] := by rw [← hg]; rfl
  have e4 : (eOp opMod (eOp opAdd (eOp opAdd (eOp opAdd (eOp opMul2 (eOp opMod (eVar 3) (eK (.int 2147483629))) (eK (.int 48271))) (eOp opMul2 (eK (.int 977)) (eVar 1))) (eOp opMul2 (eK (.int 2)) (eCall fInt (lCons (eOp opLt (eVar 2) (eK (.int 0))) lNil)))) (eK (.int 5))) (eK (.int 2147483647)))
      [some (.lst (ns.map .int)), some (.int k), some (.int cell), some (.int great), none] [] = .ok (.int mixed) [] := by
    simp only [Out.bind_ok, mBind_app, mRet_app, eVar_0, eVar_1, eVar_2, eVar_3, eVar_4, eVar_5, eVar_6, eVar_7, eVar_8, eVar_9, eVar_10, eK_app, eOp_app, asB_bl, eTest_app, tru_bl, eTru_app, eChain_app, bNot_app, bAnd_app, bOr_app, eNot_app, eAnd_app, eOr_app, eIf_app, eUn_app, lNil_app, lCons_app, eTup_app, eLst_app, eLstM_app, eCall_app, eSlice_app, asI_int, eMeth_app, sNext_app, sNever_app, sBrk_app, sCont_app, sSeq_app, sSet_app, sExpr_app, sRet_app, sRetN_app, sIf_app, sAsg_app, eRg1_app, eIsI_app, opAdd_int, opSub_int, opCmpI_int, opLt_int, opEq_int, tgName_app, tgNil_app, tgCons_app, tgTup_app, clr_nil', clr_cons', ofO_some, opIx_tup0, opIx_tup1, fLen_tup, fLen_lst, fTuple_lst, startD, isTy, List.map_cons, List.map_nil, List.length_cons, List.length_nil, List.cons_append, List.nil_append, List.replicate, Nat.reduceAdd, Nat.reduceSub, List.set_cons_zero, List.set_cons_succ, reduceIte, eq_self, Bool.false_eq_true, Bool.not_true, Bool.not_false, Option.bind_some, Bool.xor_false, Bool.xor_true, decide_true, decide_false, opMod_pos (show (0 : Int) < 2147483629 by omega), opMul_r (show (48271 : Int).natAbs < 2 ^ 64 by decide), opMul_l (show (977 : Int).natAbs < 2 ^ 64 by decide), opMul_l (show (2 : Int).natAbs < 2 ^ 64 by decide), hi, opMod_pos (show (0 : Int) < 2147483647 by omega), hw]
  have h5 : ∃ a : Int, 0 ≤ a ∧ eIf (eTest (eOp (opCmpI fun i j => decide (j ≤ i)) (eVar 3) (eOp opPow (eK (.int 10)) (eK (.int 18))))) (eOp opSub (eVar 3) (eOp opPow (eK (.int 10)) (eK (.int 18)))) (eK (.int 0))
      [some (.lst (ns.map .int)), some (.int k), some (.int cell), some (.int great), some (.int mixed)] [] = .ok (.int a) [] := by
    by_cases h : 1000000000000000000 ≤ great
    · exact ⟨great - 1000000000000000000, by omega, by simp only [Out.bind_ok, mBind_app, mRet_app, eVar_0, eVar_1, eVar_2, eVar_3, eVar_4, eVar_5, eVar_6, eVar_7, eVar_8, eVar_9, eVar_10, eK_app, eOp_app, asB_bl, eTest_app, tru_bl, eTru_app, eChain_app, bNot_app, bAnd_app, bOr_app, eNot_app, eAnd_app, eOr_app, eIf_app, eUn_app, lNil_app, lCons_app, eTup_app, eLst_app, eLstM_app, eCall_app, eSlice_app, asI_int, eMeth_app, sNext_app, sNever_app, sBrk_app, sCont_app, sSeq_app, sSet_app, sExpr_app, sRet_app, sRetN_app, sIf_app, sAsg_app, eRg1_app, eIsI_app, opAdd_int, opSub_int, opCmpI_int, opLt_int, opEq_int, tgName_app, tgNil_app, tgCons_app, tgTup_app, clr_nil', clr_cons', ofO_some, opIx_tup0, opIx_tup1, fLen_tup, fLen_lst, fTuple_lst, startD, isTy, List.map_cons, List.map_nil, List.length_cons, List.length_nil, List.cons_append, List.nil_append, List.replicate, Nat.reduceAdd, Nat.reduceSub, List.set_cons_zero, List.set_cons_succ, reduceIte, eq_self, Bool.false_eq_true, Bool.not_true, Bool.not_false, Option.bind_some, Bool.xor_false, Bool.xor_true, decide_true, decide_false, pow10, h]⟩
    · have h' : decide (1000000000000000000 ≤ great) = false := decide_eq_false h
      exact ⟨0, by omega, by simp only [Out.bind_ok, mBind_app, mRet_app, eVar_0, eVar_1, eVar_2, eVar_3, eVar_4, eVar_5, eVar_6, eVar_7, eVar_8, eVar_9, eVar_10, eK_app, eOp_app, asB_bl, eTest_app, tru_bl, eTru_app, eChain_app, bNot_app, bAnd_app, bOr_app, eNot_app, eAnd_app, eOr_app, eIf_app, eUn_app, lNil_app, lCons_app, eTup_app, eLst_app, eLstM_app, eCall_app, eSlice_app, asI_int, eMeth_app, sNext_app, sNever_app, sBrk_app, sCont_app, sSeq_app, sSet_app, sExpr_app, sRet_app, sRetN_app, sIf_app, sAsg_app, eRg1_app, eIsI_app, opAdd_int, opSub_int, opCmpI_int, opLt_int, opEq_int, tgName_app, tgNil_app, tgCons_app, tgTup_app, clr_nil', clr_cons', ofO_some, opIx_tup0, opIx_tup1, fLen_tup, fLen_lst, fTuple_lst, startD, isTy, List.map_cons, List.map_nil, List.length_cons, List.length_nil, List.cons_append, List.nil_append, List.replicate, Nat.reduceAdd, Nat.reduceSub, List.set_cons_zero, List.set_cons_succ, reduceIte, eq_self, Bool.false_eq_true, Bool.not_true, Bool.not_false, Option.bind_some, Bool.xor_false, Bool.xor_true, decide_true, decide_false, pow10, h']⟩
  obtain ⟨a, ha, e5⟩ := h5
  refine ⟨a, mixed, ha, hm0, ?_⟩
  unfold m__law_pool
  refine (sSeq_next (sSet_ok ec)).trans ?_
  refine (sSeq_next (sSet_ok (eCall1_ok (d := .int cell) rfl e3))).trans ?_
  refine (sSeq_next (sSet_ok e4)).trans ?_
  refine sRet_ok ?_
  rw [eLstM_app, lCons_app]
  show ((eIf _ _ _ [some (.lst (ns.map .int)), some (.int k), some (.int cell), some (.int great), some (.int mixed)] []).bind _).bind _ = _
  rw [e5]
  simp only [Out.bind_ok, mBind_app, mRet_app, eVar_0, eVar_1, eVar_2, eVar_3, eVar_4, eVar_5, eVar_6, eVar_7, eVar_8, eVar_9, eVar_10, eK_app, eOp_app, asB_bl, eTest_app, tru_bl, eTru_app, eChain_app, bNot_app, bAnd_app, bOr_app, eNot_app, eAnd_app, eOr_app, eIf_app, eUn_app, lNil_app, lCons_app, eTup_app, eLst_app, eLstM_app, eCall_app, eSlice_app, asI_int, eMeth_app, sNext_app, sNever_app, sBrk_app, sCont_app, sSeq_app, sSet_app, sExpr_app, sRet_app, sRetN_app, sIf_app, sAsg_app, eRg1_app, eIsI_app, opAdd_int, opSub_int, opCmpI_int, opLt_int, opEq_int, tgName_app, tgNil_app, tgCons_app, tgTup_app, clr_nil', clr_cons', ofO_some, opIx_tup0, opIx_tup1, fLen_tup, fLen_lst, fTuple_lst, startD, isTy, List.map_cons, List.map_nil, List.length_cons, List.length_nil, List.cons_append, List.nil_append, List.replicate, Nat.reduceAdd, Nat.reduceSub, List.set_cons_zero, List.set_cons_succ, reduceIte, eq_self, Bool.false_eq_true, Bool.not_true, Bool.not_false, Option.bind_some, Bool.xor_false, Bool.xor_true, decide_true, decide_false, mkLstM]
  show (if _ ≤ sizeLine then _ else _) = _
  rw [if_pos (by rw [sizeLine_eq]; simp)]
theorem pool_call (ns : List Int) (k : Nat) (σ : Sl) (S : Sto) : ∃ ob, IsPool ob ∧ callFM 2 f__law_pool [.lst (ns.map .int), .int k] σ S = .ok (.ref S.length) (S ++ [ob]) := by
  obtain ⟨a, b, ha, hb, e⟩ := pool_body ns k
  have hp : IsPool (poolOb a b 0) := ⟨a, b, 0, ha, hb, by omega, rfl⟩
  refine ⟨poolOb a b 0, hp, ?_⟩
  have ef : f__law_pool [.lst (ns.map .int), .int k] [] = .ok (.ref 0) [poolOb a b 0] := by
    unfold f__law_pool runFM
    show (match m__law_pool [some (.lst (ns.map .int)), some (.int k), none, none, none] [] with | .ok (.ret d) S' => finM 0 d S' | .ok _ _ => .stuck | .exc e _ S' => _ | .stuck => .stuck) = _
    rw [e]
    show finM 0 (.ref 0) [poolOb a b 0] = _
    unfold finM
    simp [hp.pd]
  unfold callFM
  simp only [refsOf_pd, refsOf_nil, obsAt_nil, renum_pd, renum_nil, ef]
  rw [if_pos ⟨rfl, List.nodup_nil, rfl⟩]
  simp [hp.pd]
end K01
end
section
namespace K01
open PySem PySem.Spec PyProof.Rows L2 DL
open PySem.W (dataLe AllAlike Sortable)
/-! ### a web drawn -/
abbrev tiesOb (L : List (Nat × Nat)) : Ob := .lst (L.map fun p => D.pd (tieD p))
/-- the ties so far, by b, then a -/
structure Colex (L : List (Nat × Nat)) (b a : Nat) : Prop where
  mem : ∀ p ∈ L, p.1 < p.2 ∧ (p.2 < b ∨ (p.2 = b ∧ p.1 < a))
  ord : L.Pairwise fun p q => p.2 < q.2 ∨ (p.2 = q.2 ∧ p.1 < q.1)
  len : L.length ≤ 12 * b + a
theorem Colex.more {L : List (Nat × Nat)} {b a : Nat} (c : Colex L b a) (h : a < b) (k : Bool) : Colex (L ++ if k = true then [(a, b)] else []) b (a + 1) := by
  cases k with
  | false =>
    rw [if_neg Bool.false_ne_true, List.append_nil]
    exact ⟨fun p hp => ⟨(c.mem p hp).1, (c.mem p hp).2.imp id fun h => ⟨h.1, by omega⟩⟩, c.ord, by have := c.len; omega⟩
  | true =>
    rw [if_pos rfl]
    refine ⟨fun p hp => ?_, ?_, ?_⟩
    · rcases List.mem_append.mp hp with hp | hp
      · exact ⟨(c.mem p hp).1, (c.mem p hp).2.imp id fun h => ⟨h.1, by omega⟩⟩
      · rw [show p = (a, b) by simpa using hp]
        exact ⟨h, .inr ⟨rfl, Nat.lt_succ_self _⟩⟩
    · rw [List.pairwise_append]
      refine ⟨c.ord, by simp, fun p hp q hq => ?_⟩
      rw [show q = (a, b) by simpa using hq]
      exact (c.mem p hp).2
    · rw [List.length_append, List.length_singleton]
      have := c.len
      omega
theorem Colex.next {L : List (Nat × Nat)} {b : Nat} (c : Colex L b b) (hb : b ≤ 12) : Colex L (b + 1) 0 :=
  ⟨fun p hp => ⟨(c.mem p hp).1, .inl (by rcases (c.mem p hp).2 with h | h <;> omega)⟩, c.ord, by have := c.len; omega⟩
theorem eqI (a b : Int) : PyData.eqv (.int a) (.int b) = (a == b) := rfl
/-- which ties: a truth is set, whatever the way -/
theorem bit_ok {ob : Ob} (hp : IsPool ob) {L : List (Nat × Nat)} {n way b a : Nat} (hw : way < 8) {r : D} {most : D} {x7 : Option D} : ∃ (k : Bool) (ob' : Ob), IsPool ob' ∧
    (sIf (eTest (eOp (opEq false) (eVar 3) (eK (.int 0)))) (sSet 7 (eOp (opEq false) (eVar 5) (eOp opAdd (eVar 6) (eK (.int 1))))) (sIf (eTest (eOp (opEq false) (eVar 3) (eK (.int 1)))) (sSet 7 (eOr (eOp (opEq false) (eVar 5) (eOp opAdd (eVar 6) (eK (.int 1)))) (eOp (opEq false) (eTup (lCons (eVar 6) (lCons (eVar 5) lNil))) (eTup (lCons (eK (.int 0)) (lCons (eOp opSub (eVar 2) (eK (.int 1))) lNil)))))) (sIf (eTest (eOp (opEq false) (eVar 3) (eK (.int 2)))) (sSet 7 (eOp (opEq false) (eVar 6) (eK (.int 0)))) (sIf (eTest (eOp (opEq false) (eVar 3) (eK (.int 3)))) (sSet 7 (eK (.bl true))) (sIf (eTest (eOp (opEq false) (eVar 3) (eK (.int 4)))) (sSet 7 (eK (.bl false))) (sSet 7 (eOr (eOp (opEq false) (mBind (lCons (eVar 0) (lCons (eK (.int 3)) lNil)) (callF 2 f__law_take)) (eK (.int 0))) (eAnd (eOp (opEq false) (eVar 5) (eOp opAdd (eVar 6) (eK (.int 1)))) (eOp (opEq false) (eVar 3) (eK (.int 5)))))))))))
      [some (.ref 0), some most, some (.int n), some (.int way), some r, some (.int b), some (.int a), x7] [ob, tiesOb L] = .ok (.next [some (.ref 0), some most, some (.int n), some (.int way), some r, some (.int b), some (.int a), some (.bl k)]) [ob', tiesOb L] := by
  by_cases h0 : (way : Int) = 0
  · refine ⟨decide ((b : Int) = (a : Int) + 1), ob, hp, ?_⟩
    simp only [Out.bind_ok, mBind_app, mRet_app, eVar_0, eVar_1, eVar_2, eVar_3, eVar_4, eVar_5, eVar_6, eVar_7, eVar_8, eVar_9, eVar_10, eK_app, eOp_app, asB_bl, eTest_app, tru_bl, eTru_app, eChain_app, bNot_app, bAnd_app, bOr_app, eNot_app, eAnd_app, eOr_app, eIf_app, eUn_app, lNil_app, lCons_app, eTup_app, eLst_app, eLstM_app, eCall_app, eSlice_app, asI_int, eMeth_app, sNext_app, sNever_app, sBrk_app, sCont_app, sSeq_app, sSet_app, sExpr_app, sRet_app, sRetN_app, sIf_app, sAsg_app, eRg1_app, eIsI_app, opAdd_int, opSub_int, opCmpI_int, opLt_int, opEq_int, tgName_app, tgNil_app, tgCons_app, tgTup_app, clr_nil', clr_cons', ofO_some, opIx_tup0, opIx_tup1, fLen_tup, fLen_lst, fTuple_lst, startD, isTy, List.map_cons, List.map_nil, List.length_cons, List.length_nil, List.cons_append, List.nil_append, List.replicate, Nat.reduceAdd, Nat.reduceSub, List.set_cons_zero, List.set_cons_succ, reduceIte, eq_self, Bool.false_eq_true, Bool.not_true, Bool.not_false, Option.bind_some, Bool.xor_false, Bool.xor_true, decide_true, decide_false, h0]
  · by_cases h1 : (way : Int) = 1
    · refine ⟨decide ((b : Int) = (a : Int) + 1) || PyData.eqv (.tuple [.int a, .int b]) (.tuple [.int 0, .int ((n : Int) - 1)]), ob, hp, ?_⟩
      have ht := fun S => opEq_ex false (okEq_tup2 (a : Int) (b : Int)) (okEq_tup2 0 ((n : Int) - 1)) S
      simp only [Out.bind_ok, mBind_app, mRet_app, eVar_0, eVar_1, eVar_2, eVar_3, eVar_4, eVar_5, eVar_6, eVar_7, eVar_8, eVar_9, eVar_10, eK_app, eOp_app, asB_bl, eTest_app, tru_bl, eTru_app, eChain_app, bNot_app, bAnd_app, bOr_app, eNot_app, eAnd_app, eOr_app, eIf_app, eUn_app, lNil_app, lCons_app, eTup_app, eLst_app, eLstM_app, eCall_app, eSlice_app, asI_int, eMeth_app, sNext_app, sNever_app, sBrk_app, sCont_app, sSeq_app, sSet_app, sExpr_app, sRet_app, sRetN_app, sIf_app, sAsg_app, eRg1_app, eIsI_app, opAdd_int, opSub_int, opCmpI_int, opLt_int, opEq_int, tgName_app, tgNil_app, tgCons_app, tgTup_app, clr_nil', clr_cons', ofO_some, opIx_tup0, opIx_tup1, fLen_tup, fLen_lst, fTuple_lst, startD, isTy, List.map_cons, List.map_nil, List.length_cons, List.length_nil, List.cons_append, List.nil_append, List.replicate, Nat.reduceAdd, Nat.reduceSub, List.set_cons_zero, List.set_cons_succ, reduceIte, eq_self, Bool.false_eq_true, Bool.not_true, Bool.not_false, Option.bind_some, Bool.xor_false, Bool.xor_true, decide_true, decide_false, h1, mkTup2, ht, show decide ((1 : Int) = 0) = false from rfl]
      rw [show ∀ (u v : Bool) (S : Sto), (if u = true then Out.ok (D.bl u) S else Out.ok (D.bl v) S) = Out.ok (D.bl (u || v)) S from fun u v S => by cases u <;> rfl]
      simp only [Out.bind_ok, mBind_app, mRet_app, eVar_0, eVar_1, eVar_2, eVar_3, eVar_4, eVar_5, eVar_6, eVar_7, eVar_8, eVar_9, eVar_10, eK_app, eOp_app, asB_bl, eTest_app, tru_bl, eTru_app, eChain_app, bNot_app, bAnd_app, bOr_app, eNot_app, eAnd_app, eOr_app, eIf_app, eUn_app, lNil_app, lCons_app, eTup_app, eLst_app, eLstM_app, eCall_app, eSlice_app, asI_int, eMeth_app, sNext_app, sNever_app, sBrk_app, sCont_app, sSeq_app, sSet_app, sExpr_app, sRet_app, sRetN_app, sIf_app, sAsg_app, eRg1_app, eIsI_app, opAdd_int, opSub_int, opCmpI_int, opLt_int, opEq_int, tgName_app, tgNil_app, tgCons_app, tgTup_app, clr_nil', clr_cons', ofO_some, opIx_tup0, opIx_tup1, fLen_tup, fLen_lst, fTuple_lst, startD, isTy, List.map_cons, List.map_nil, List.length_cons, List.length_nil, List.cons_append, List.nil_append, List.replicate, Nat.reduceAdd, Nat.reduceSub, List.set_cons_zero, List.set_cons_succ, reduceIte, eq_self, Bool.false_eq_true, Bool.not_true, Bool.not_false, Option.bind_some, Bool.xor_false, Bool.xor_true, decide_true, decide_false]
    · by_cases h2 : (way : Int) = 2
      · refine ⟨decide ((a : Int) = 0), ob, hp, ?_⟩
        simp only [Out.bind_ok, mBind_app, mRet_app, eVar_0, eVar_1, eVar_2, eVar_3, eVar_4, eVar_5, eVar_6, eVar_7, eVar_8, eVar_9, eVar_10, eK_app, eOp_app, asB_bl, eTest_app, tru_bl, eTru_app, eChain_app, bNot_app, bAnd_app, bOr_app, eNot_app, eAnd_app, eOr_app, eIf_app, eUn_app, lNil_app, lCons_app, eTup_app, eLst_app, eLstM_app, eCall_app, eSlice_app, asI_int, eMeth_app, sNext_app, sNever_app, sBrk_app, sCont_app, sSeq_app, sSet_app, sExpr_app, sRet_app, sRetN_app, sIf_app, sAsg_app, eRg1_app, eIsI_app, opAdd_int, opSub_int, opCmpI_int, opLt_int, opEq_int, tgName_app, tgNil_app, tgCons_app, tgTup_app, clr_nil', clr_cons', ofO_some, opIx_tup0, opIx_tup1, fLen_tup, fLen_lst, fTuple_lst, startD, isTy, List.map_cons, List.map_nil, List.length_cons, List.length_nil, List.cons_append, List.nil_append, List.replicate, Nat.reduceAdd, Nat.reduceSub, List.set_cons_zero, List.set_cons_succ, reduceIte, eq_self, Bool.false_eq_true, Bool.not_true, Bool.not_false, Option.bind_some, Bool.xor_false, Bool.xor_true, decide_true, decide_false, h2, show decide ((2 : Int) = 0) = false from rfl, show decide ((2 : Int) = 1) = false from rfl]
      · by_cases h3 : (way : Int) = 3
        · refine ⟨true, ob, hp, ?_⟩
          simp only [Out.bind_ok, mBind_app, mRet_app, eVar_0, eVar_1, eVar_2, eVar_3, eVar_4, eVar_5, eVar_6, eVar_7, eVar_8, eVar_9, eVar_10, eK_app, eOp_app, asB_bl, eTest_app, tru_bl, eTru_app, eChain_app, bNot_app, bAnd_app, bOr_app, eNot_app, eAnd_app, eOr_app, eIf_app, eUn_app, lNil_app, lCons_app, eTup_app, eLst_app, eLstM_app, eCall_app, eSlice_app, asI_int, eMeth_app, sNext_app, sNever_app, sBrk_app, sCont_app, sSeq_app, sSet_app, sExpr_app, sRet_app, sRetN_app, sIf_app, sAsg_app, eRg1_app, eIsI_app, opAdd_int, opSub_int, opCmpI_int, opLt_int, opEq_int, tgName_app, tgNil_app, tgCons_app, tgTup_app, clr_nil', clr_cons', ofO_some, opIx_tup0, opIx_tup1, fLen_tup, fLen_lst, fTuple_lst, startD, isTy, List.map_cons, List.map_nil, List.length_cons, List.length_nil, List.cons_append, List.nil_append, List.replicate, Nat.reduceAdd, Nat.reduceSub, List.set_cons_zero, List.set_cons_succ, reduceIte, eq_self, Bool.false_eq_true, Bool.not_true, Bool.not_false, Option.bind_some, Bool.xor_false, Bool.xor_true, decide_true, decide_false, h3, show decide ((3 : Int) = 0) = false from rfl, show decide ((3 : Int) = 1) = false from rfl, show decide ((3 : Int) = 2) = false from rfl]
        · by_cases h4 : (way : Int) = 4
          · refine ⟨false, ob, hp, ?_⟩
            simp only [Out.bind_ok, mBind_app, mRet_app, eVar_0, eVar_1, eVar_2, eVar_3, eVar_4, eVar_5, eVar_6, eVar_7, eVar_8, eVar_9, eVar_10, eK_app, eOp_app, asB_bl, eTest_app, tru_bl, eTru_app, eChain_app, bNot_app, bAnd_app, bOr_app, eNot_app, eAnd_app, eOr_app, eIf_app, eUn_app, lNil_app, lCons_app, eTup_app, eLst_app, eLstM_app, eCall_app, eSlice_app, asI_int, eMeth_app, sNext_app, sNever_app, sBrk_app, sCont_app, sSeq_app, sSet_app, sExpr_app, sRet_app, sRetN_app, sIf_app, sAsg_app, eRg1_app, eIsI_app, opAdd_int, opSub_int, opCmpI_int, opLt_int, opEq_int, tgName_app, tgNil_app, tgCons_app, tgTup_app, clr_nil', clr_cons', ofO_some, opIx_tup0, opIx_tup1, fLen_tup, fLen_lst, fTuple_lst, startD, isTy, List.map_cons, List.map_nil, List.length_cons, List.length_nil, List.cons_append, List.nil_append, List.replicate, Nat.reduceAdd, Nat.reduceSub, List.set_cons_zero, List.set_cons_succ, reduceIte, eq_self, Bool.false_eq_true, Bool.not_true, Bool.not_false, Option.bind_some, Bool.xor_false, Bool.xor_true, decide_true, decide_false, h4, show decide ((4 : Int) = 0) = false from rfl, show decide ((4 : Int) = 1) = false from rfl, show decide ((4 : Int) = 2) = false from rfl, show decide ((4 : Int) = 3) = false from rfl]
          · obtain ⟨x, ob', _, hp', et⟩ := take_call hp (many := 3) (by omega) (by omega) (S := [ob, tiesOb L]) (p := 0) rfl [some (.ref 0), some most, some (.int n), some (.int way), some r, some (.int b), some (.int a), x7]
            rw [show ((3 : Nat) : Int) = 3 from rfl] at et
            refine ⟨decide ((x : Int) = 0) || (decide ((b : Int) = (a : Int) + 1) && decide ((way : Int) = 5)), ob', hp', ?_⟩
            simp only [Out.bind_ok, mBind_app, mRet_app, eVar_0, eVar_1, eVar_2, eVar_3, eVar_4, eVar_5, eVar_6, eVar_7, eVar_8, eVar_9, eVar_10, eK_app, eOp_app, asB_bl, eTest_app, tru_bl, eTru_app, eChain_app, bNot_app, bAnd_app, bOr_app, eNot_app, eAnd_app, eOr_app, eIf_app, eUn_app, lNil_app, lCons_app, eTup_app, eLst_app, eLstM_app, eCall_app, eSlice_app, asI_int, eMeth_app, sNext_app, sNever_app, sBrk_app, sCont_app, sSeq_app, sSet_app, sExpr_app, sRet_app, sRetN_app, sIf_app, sAsg_app, eRg1_app, eIsI_app, opAdd_int, opSub_int, opCmpI_int, opLt_int, opEq_int, tgName_app, tgNil_app, tgCons_app, tgTup_app, clr_nil', clr_cons', ofO_some, opIx_tup0, opIx_tup1, fLen_tup, fLen_lst, fTuple_lst, startD, isTy, List.map_cons, List.map_nil, List.length_cons, List.length_nil, List.cons_append, List.nil_append, List.replicate, Nat.reduceAdd, Nat.reduceSub, List.set_cons_zero, List.set_cons_succ, reduceIte, eq_self, Bool.false_eq_true, Bool.not_true, Bool.not_false, Option.bind_some, Bool.xor_false, Bool.xor_true, decide_true, decide_false, h0, h1, h2, h3, h4, et]
            rw [show ∀ (u v w : Bool) (S : Sto), (if u = true then Out.ok (D.bl u) S else if v = true then Out.ok (D.bl w) S else Out.ok (D.bl v) S) = Out.ok (D.bl (u || (v && w))) S from fun u v w S => by cases u <;> cases v <;> rfl]
            simp only [Out.bind_ok, mBind_app, mRet_app, eVar_0, eVar_1, eVar_2, eVar_3, eVar_4, eVar_5, eVar_6, eVar_7, eVar_8, eVar_9, eVar_10, eK_app, eOp_app, asB_bl, eTest_app, tru_bl, eTru_app, eChain_app, bNot_app, bAnd_app, bOr_app, eNot_app, eAnd_app, eOr_app, eIf_app, eUn_app, lNil_app, lCons_app, eTup_app, eLst_app, eLstM_app, eCall_app, eSlice_app, asI_int, eMeth_app, sNext_app, sNever_app, sBrk_app, sCont_app, sSeq_app, sSet_app, sExpr_app, sRet_app, sRetN_app, sIf_app, sAsg_app, eRg1_app, eIsI_app, opAdd_int, opSub_int, opCmpI_int, opLt_int, opEq_int, tgName_app, tgNil_app, tgCons_app, tgTup_app, clr_nil', clr_cons', ofO_some, opIx_tup0, opIx_tup1, fLen_tup, fLen_lst, fTuple_lst, startD, isTy, List.map_cons, List.map_nil, List.length_cons, List.length_nil, List.cons_append, List.nil_append, List.replicate, Nat.reduceAdd, Nat.reduceSub, List.set_cons_zero, List.set_cons_succ, reduceIte, eq_self, Bool.false_eq_true, Bool.not_true, Bool.not_false, Option.bind_some, Bool.xor_false, Bool.xor_true, decide_true, decide_false]
theorem tie_lst (L : List (Nat × Nat)) (a b : Nat) (k : Bool) : (L.map fun p => D.pd (tieD p)) ++ (if k = true then [tieD (a, b)] else []).map D.pd = (L ++ if k = true then [(a, b)] else []).map fun p => D.pd (tieD p) := by
  cases k <;> simp
theorem b1_ok {ob : Ob} (hp : IsPool ob) {L : List (Nat × Nat)} {n way b a : Nat} (hw : way < 8) {most : D} {x7 : Option D} (hl : L.length ≤ 1000) : ∃ (k : Bool) (ob' : Ob), IsPool ob' ∧
    q_law_any_web_b1 [some (.ref 0), some most, some (.int n), some (.int way), some (.ref 1), some (.int b), some (.int a), x7] [ob, tiesOb L] =
      .ok (.next [some (.ref 0), some most, some (.int n), some (.int way), some (.ref 1), some (.int b), some (.int a), some (.bl k)]) [ob', tiesOb (L ++ if k = true then [(a, b)] else [])] := by
  obtain ⟨k, ob', hp', e⟩ := bit_ok hp (L := L) (n := n) (b := b) (a := a) hw (r := .ref 1) (most := most) (x7 := x7)
  refine ⟨k, ob', hp', ?_⟩
  unfold q_law_any_web_b1
  refine (sSeq_next e).trans (sExpr_ok (d := .non) ?_)
  have hi : fInt [.bl k] [ob', tiesOb L] = .ok (.int (if k = true then 1 else 0)) [ob', tiesOb L] := rfl
  have ht : tyD [ob', tiesOb L] (.ref 1) = some "list" := rfl
  have hla : lstAt [ob', tiesOb L] (.ref 1) = some (1, L.map fun p => D.pd (tieD p)) := rfl
  simp only [Out.bind_ok, mBind_app, mRet_app, eVar_0, eVar_1, eVar_2, eVar_3, eVar_4, eVar_5, eVar_6, eVar_7, eVar_8, eVar_9, eVar_10, eK_app, eOp_app, asB_bl, eTest_app, tru_bl, eTru_app, eChain_app, bNot_app, bAnd_app, bOr_app, eNot_app, eAnd_app, eOr_app, eIf_app, eUn_app, lNil_app, lCons_app, eTup_app, eLst_app, eLstM_app, eCall_app, eSlice_app, asI_int, eMeth_app, sNext_app, sNever_app, sBrk_app, sCont_app, sSeq_app, sSet_app, sExpr_app, sRet_app, sRetN_app, sIf_app, sAsg_app, eRg1_app, eIsI_app, opAdd_int, opSub_int, opCmpI_int, opLt_int, opEq_int, tgName_app, tgNil_app, tgCons_app, tgTup_app, clr_nil', clr_cons', ofO_some, opIx_tup0, opIx_tup1, fLen_tup, fLen_lst, fTuple_lst, startD, isTy, List.map_cons, List.map_nil, List.length_cons, List.length_nil, List.cons_append, List.nil_append, List.replicate, Nat.reduceAdd, Nat.reduceSub, List.set_cons_zero, List.set_cons_succ, reduceIte, eq_self, Bool.false_eq_true, Bool.not_true, Bool.not_false, Option.bind_some, Bool.xor_false, Bool.xor_true, decide_true, decide_false, ht, mkTup2, mkLst1, hi, mul_bit, mExtend, hla, asL]
  rw [if_pos (by rw [List.length_map, List.length_map, sizeLine_eq]; cases k <;> simp <;> omega), tie_lst]
theorem webs_loop {ob : Ob} (hp : IsPool ob) {n way : Nat} (hn : n ≤ 12) (hw : way < 8) {most : D} {x7 : Option D} : Sat (sFor [5, 6, 7] (iRange1 (lCons (eVar 2) lNil)) (tgName 5) q_law_any_web_b2 [some (.ref 0), some most, some (.int n), some (.int way), some (.ref 1), none, none, none] [ob, tiesOb []]) fun f S' =>
    f = .next [some (.ref 0), some most, some (.int n), some (.int way), some (.ref 1), none, none, none] ∧ ∃ ob' L, IsPool ob' ∧ Colex L n 0 ∧ S' = [ob', tiesOb L] := by
  rw [sFor_app, iRange1_nat (n := n) (by simp only [Out.bind_ok, mBind_app, mRet_app, eVar_0, eVar_1, eVar_2, eVar_3, eVar_4, eVar_5, eVar_6, eVar_7, eVar_8, eVar_9, eVar_10, eK_app, eOp_app, asB_bl, eTest_app, tru_bl, eTru_app, eChain_app, bNot_app, bAnd_app, bOr_app, eNot_app, eAnd_app, eOr_app, eIf_app, eUn_app, lNil_app, lCons_app, eTup_app, eLst_app, eLstM_app, eCall_app, eSlice_app, asI_int, eMeth_app, sNext_app, sNever_app, sBrk_app, sCont_app, sSeq_app, sSet_app, sExpr_app, sRet_app, sRetN_app, sIf_app, sAsg_app, eRg1_app, eIsI_app, opAdd_int, opSub_int, opCmpI_int, opLt_int, opEq_int, tgName_app, tgNil_app, tgCons_app, tgTup_app, clr_nil', clr_cons', ofO_some, opIx_tup0, opIx_tup1, fLen_tup, fLen_lst, fTuple_lst, startD, isTy, List.map_cons, List.map_nil, List.length_cons, List.length_nil, List.cons_append, List.nil_append, List.replicate, Nat.reduceAdd, Nat.reduceSub, List.set_cons_zero, List.set_cons_succ, reduceIte, eq_self, Bool.false_eq_true, Bool.not_true, Bool.not_false, Option.bind_some, Bool.xor_false, Bool.xor_true, decide_true, decide_false]) (by omega)]
  refine forGo_range n (fun j σ S => σ = [some (.ref 0), some most, some (.int n), some (.int way), some (.ref 1), none, none, none] ∧ ∃ ob' L, IsPool ob' ∧ Colex L j 0 ∧ S = [ob', tiesOb L]) ?_ (fun σ S h => ⟨by rw [h.1], h.2⟩) ⟨rfl, ob, [], hp, ⟨fun _ h => (nomatch h), .nil, Nat.zero_le _⟩, rfl⟩
  rintro b σ S hb ⟨rfl, ob1, L, hp1, c, rfl⟩
  simp only [q_law_any_web_b2, sFor_app, Out.bind_ok, mBind_app, mRet_app, eVar_0, eVar_1, eVar_2, eVar_3, eVar_4, eVar_5, eVar_6, eVar_7, eVar_8, eVar_9, eVar_10, eK_app, eOp_app, asB_bl, eTest_app, tru_bl, eTru_app, eChain_app, bNot_app, bAnd_app, bOr_app, eNot_app, eAnd_app, eOr_app, eIf_app, eUn_app, lNil_app, lCons_app, eTup_app, eLst_app, eLstM_app, eCall_app, eSlice_app, asI_int, eMeth_app, sNext_app, sNever_app, sBrk_app, sCont_app, sSeq_app, sSet_app, sExpr_app, sRet_app, sRetN_app, sIf_app, sAsg_app, eRg1_app, eIsI_app, opAdd_int, opSub_int, opCmpI_int, opLt_int, opEq_int, tgName_app, tgNil_app, tgCons_app, tgTup_app, clr_nil', clr_cons', ofO_some, opIx_tup0, opIx_tup1, fLen_tup, fLen_lst, fTuple_lst, startD, isTy, List.map_cons, List.map_nil, List.length_cons, List.length_nil, List.cons_append, List.nil_append, List.replicate, Nat.reduceAdd, Nat.reduceSub, List.set_cons_zero, List.set_cons_succ, reduceIte, eq_self, Bool.false_eq_true, Bool.not_true, Bool.not_false, Option.bind_some, Bool.xor_false, Bool.xor_true, decide_true, decide_false]
  rw [iRange1_nat (n := b) (by simp only [Out.bind_ok, mBind_app, mRet_app, eVar_0, eVar_1, eVar_2, eVar_3, eVar_4, eVar_5, eVar_6, eVar_7, eVar_8, eVar_9, eVar_10, eK_app, eOp_app, asB_bl, eTest_app, tru_bl, eTru_app, eChain_app, bNot_app, bAnd_app, bOr_app, eNot_app, eAnd_app, eOr_app, eIf_app, eUn_app, lNil_app, lCons_app, eTup_app, eLst_app, eLstM_app, eCall_app, eSlice_app, asI_int, eMeth_app, sNext_app, sNever_app, sBrk_app, sCont_app, sSeq_app, sSet_app, sExpr_app, sRet_app, sRetN_app, sIf_app, sAsg_app, eRg1_app, eIsI_app, opAdd_int, opSub_int, opCmpI_int, opLt_int, opEq_int, tgName_app, tgNil_app, tgCons_app, tgTup_app, clr_nil', clr_cons', ofO_some, opIx_tup0, opIx_tup1, fLen_tup, fLen_lst, fTuple_lst, startD, isTy, List.map_cons, List.map_nil, List.length_cons, List.length_nil, List.cons_append, List.nil_append, List.replicate, Nat.reduceAdd, Nat.reduceSub, List.set_cons_zero, List.set_cons_succ, reduceIte, eq_self, Bool.false_eq_true, Bool.not_true, Bool.not_false, Option.bind_some, Bool.xor_false, Bool.xor_true, decide_true, decide_false]) (by omega)]
  have inner := forGo_range (i := 6) (body := q_law_any_web_b1) (vs := [6, 7]) (P := fun f S' => ∃ ob' L', f = .next [some (.ref 0), some most, some (.int n), some (.int way), some (.ref 1), some (.int b), none, none] ∧ IsPool ob' ∧ Colex L' b b ∧ S' = [ob', tiesOb L']) b
    (fun a σ S => σ = [some (.ref 0), some most, some (.int n), some (.int way), some (.ref 1), some (.int b), none, none] ∧ ∃ ob' L', IsPool ob' ∧ Colex L' b a ∧ S = [ob', tiesOb L']) (by
      rintro a σ S ha ⟨rfl, ob2, L2, hp2, c2, rfl⟩
      obtain ⟨k, ob3, hp3, e⟩ := b1_ok hp2 (L := L2) (n := n) (b := b) (a := a) hw (most := most) (x7 := none) (by have := c2.len; omega)
      simp only [Out.bind_ok, mBind_app, mRet_app, eVar_0, eVar_1, eVar_2, eVar_3, eVar_4, eVar_5, eVar_6, eVar_7, eVar_8, eVar_9, eVar_10, eK_app, eOp_app, asB_bl, eTest_app, tru_bl, eTru_app, eChain_app, bNot_app, bAnd_app, bOr_app, eNot_app, eAnd_app, eOr_app, eIf_app, eUn_app, lNil_app, lCons_app, eTup_app, eLst_app, eLstM_app, eCall_app, eSlice_app, asI_int, eMeth_app, sNext_app, sNever_app, sBrk_app, sCont_app, sSeq_app, sSet_app, sExpr_app, sRet_app, sRetN_app, sIf_app, sAsg_app, eRg1_app, eIsI_app, opAdd_int, opSub_int, opCmpI_int, opLt_int, opEq_int, tgName_app, tgNil_app, tgCons_app, tgTup_app, clr_nil', clr_cons', ofO_some, opIx_tup0, opIx_tup1, fLen_tup, fLen_lst, fTuple_lst, startD, isTy, List.map_cons, List.map_nil, List.length_cons, List.length_nil, List.cons_append, List.nil_append, List.replicate, Nat.reduceAdd, Nat.reduceSub, List.set_cons_zero, List.set_cons_succ, reduceIte, eq_self, Bool.false_eq_true, Bool.not_true, Bool.not_false, Option.bind_some, Bool.xor_false, Bool.xor_true, decide_true, decide_false]
      rw [e]
      refine .ok ?_
      simp only [Out.bind_ok, mBind_app, mRet_app, eVar_0, eVar_1, eVar_2, eVar_3, eVar_4, eVar_5, eVar_6, eVar_7, eVar_8, eVar_9, eVar_10, eK_app, eOp_app, asB_bl, eTest_app, tru_bl, eTru_app, eChain_app, bNot_app, bAnd_app, bOr_app, eNot_app, eAnd_app, eOr_app, eIf_app, eUn_app, lNil_app, lCons_app, eTup_app, eLst_app, eLstM_app, eCall_app, eSlice_app, asI_int, eMeth_app, sNext_app, sNever_app, sBrk_app, sCont_app, sSeq_app, sSet_app, sExpr_app, sRet_app, sRetN_app, sIf_app, sAsg_app, eRg1_app, eIsI_app, opAdd_int, opSub_int, opCmpI_int, opLt_int, opEq_int, tgName_app, tgNil_app, tgCons_app, tgTup_app, clr_nil', clr_cons', ofO_some, opIx_tup0, opIx_tup1, fLen_tup, fLen_lst, fTuple_lst, startD, isTy, List.map_cons, List.map_nil, List.length_cons, List.length_nil, List.cons_append, List.nil_append, List.replicate, Nat.reduceAdd, Nat.reduceSub, List.set_cons_zero, List.set_cons_succ, reduceIte, eq_self, Bool.false_eq_true, Bool.not_true, Bool.not_false, Option.bind_some, Bool.xor_false, Bool.xor_true, decide_true, decide_false]
      exact ⟨trivial, ob3, _, hp3, c2.more ha k, rfl⟩) (fun σ S h => by
      obtain ⟨rfl, ob', L', h1, h2, h3⟩ := h
      exact ⟨ob', L', rfl, h1, h2, h3⟩) (σ := [some (.ref 0), some most, some (.int n), some (.int way), some (.ref 1), some (.int b), none, none]) (S := [ob1, tiesOb L]) ⟨rfl, ob1, L, hp1, ⟨fun p hp => ⟨(c.mem p hp).1, (c.mem p hp).2⟩, c.ord, c.len⟩, rfl⟩
  refine (Sat.imp inner fun f S' h => ?_)
  obtain ⟨ob', L', rfl, h1, h2, h3⟩ := h
  simp only [Out.bind_ok, mBind_app, mRet_app, eVar_0, eVar_1, eVar_2, eVar_3, eVar_4, eVar_5, eVar_6, eVar_7, eVar_8, eVar_9, eVar_10, eK_app, eOp_app, asB_bl, eTest_app, tru_bl, eTru_app, eChain_app, bNot_app, bAnd_app, bOr_app, eNot_app, eAnd_app, eOr_app, eIf_app, eUn_app, lNil_app, lCons_app, eTup_app, eLst_app, eLstM_app, eCall_app, eSlice_app, asI_int, eMeth_app, sNext_app, sNever_app, sBrk_app, sCont_app, sSeq_app, sSet_app, sExpr_app, sRet_app, sRetN_app, sIf_app, sAsg_app, eRg1_app, eIsI_app, opAdd_int, opSub_int, opCmpI_int, opLt_int, opEq_int, tgName_app, tgNil_app, tgCons_app, tgTup_app, clr_nil', clr_cons', ofO_some, opIx_tup0, opIx_tup1, fLen_tup, fLen_lst, fTuple_lst, startD, isTy, List.map_cons, List.map_nil, List.length_cons, List.length_nil, List.cons_append, List.nil_append, List.replicate, Nat.reduceAdd, Nat.reduceSub, List.set_cons_zero, List.set_cons_succ, reduceIte, eq_self, Bool.false_eq_true, Bool.not_true, Bool.not_false, Option.bind_some, Bool.xor_false, Bool.xor_true, decide_true, decide_false]
  exact ⟨trivial, ob', L', h1, h2.next (by omega), h3⟩
/-- the ties put in order -/
def tle (p q : Nat × Nat) : Bool := decide (p.1 < q.1 ∨ (p.1 = q.1 ∧ p.2 ≤ q.2))
theorem dataLe_tie : (fun p q : Nat × Nat => dataLe false tieD p q) = tle := by
  have := PySem.W.dataLe_ii (β := Nat × Nat) (fun p => (p.1 : Int)) (fun p => (p.2 : Int))
  funext p q
  show dataLe false (fun b : Nat × Nat => PyData.tuple [.int (b.1 : Int), .int (b.2 : Int)]) p q = _
  rw [this]
  unfold tle
  have : ∀ x y : Bool, (x = true ↔ y = true) → x = y := by decide
  apply this
  simp only [decide_eq_true_eq]
  omega
theorem sortD_ties (L : List (Nat × Nat)) : sortD (L.map tieD) = (L.mergeSort tle).map tieD := by
  unfold sortD
  rw [← dataLe_tie]
  exact (List.map_mergeSort (r := fun p q => dataLe false tieD p q) (s := dataLe false id) (f := tieD) fun a _ b _ => rfl).symm
theorem sortOk_ties (L : List (Nat × Nat)) : sortOk (L.map tieD) := by
  refine ⟨?_, AllAlike.of fun b b' => rfl, Sortable.tuples fun b => ⟨_, _, rfl⟩, fun d hd => ?_⟩
  · induction L with
    | nil => rfl
    | cons p r ih => rw [List.map_cons, PyData.hasDictAll, ih]; rfl
  · obtain ⟨p, _, rfl⟩ := List.mem_map.mp hd
    simp [PyData.depth, PyData.depthAll]
theorem gw_of {L : List (Nat × Nat)} {n : Nat} (h1 : 1 ≤ n) (h2 : n ≤ 12) (c : Colex L n 0) : GW n (L.mergeSort tle) := by
  have perm := List.mergeSort_perm L tle
  have sorted := List.pairwise_mergeSort (le := tle) (fun a b c h h' => by
    unfold tle at *
    simp only [decide_eq_true_eq] at *
    omega) (fun a b => by
    unfold tle
    simp only [Bool.or_eq_true, decide_eq_true_eq]
    omega) L
  have nd : L.Nodup := c.ord.imp fun {p q} h e => by
    subst e
    omega
  have nd2 : (L.mergeSort tle).Nodup := perm.nodup_iff.mpr nd
  refine ⟨h1, h2, fun p hp => ?_, ?_, by rw [perm.length_eq]; have := c.len; omega⟩
  · have := c.mem p (perm.mem_iff.mp hp)
    omega
  · exact (sorted.and nd2).imp fun {p q} ⟨h, hne⟩ => by
      unfold tle at h
      simp only [decide_eq_true_eq] at h
      unfold tlt
      obtain ⟨a, b⟩ := p
      obtain ⟨c, d⟩ := q
      simp only [ne_eq, Prod.mk.injEq] at hne
      show a < c ∨ (a = c ∧ b < d)
      simp only at h
      omega
end K01
end
section
namespace K01
open PySem PySem.Spec PyProof.Rows L2 DL
theorem sorted_ties {σ : Sl} {S : Sto} {p : Nat} {L : List (Nat × Nat)} (h : S[p]? = some (tiesOb L)) : fSorted [.ref p] S = .ok (.lst ((L.mergeSort tle).map tieD)) S := by
  have e : asQ S (.ref p) = some ((L.map tieD).map D.pd) := by
    unfold asQ asL
    simp only [h]
    rw [List.map_map]; rfl
  unfold fSorted
  simp only [e, pdL_map, sortOk_ties, if_true, sortD_ties]
theorem any_web_ok {ob : Ob} (hp : IsPool ob) {m : Nat} (m1 : 1 ≤ m) (m12 : m ≤ 12) : ∃ n ts ob', n ≤ m ∧ GW n ts ∧ IsPool ob' ∧ f__law_any_web [.ref 0, .int m] [ob] = .ok (.pd (webD n ts)) [ob'] := by
  obtain ⟨x, ob1, hx, hp1, e1⟩ := take_call hp (many := m) (by omega) (by omega) (S := [ob]) (p := 0) rfl [some (.ref 0), some (.int m), none, none, none, none, none, none]
  rw [List.set_cons_zero] at e1
  have hn : (1 : Int) + (x : Int) = ((x + 1 : Nat) : Int) := by omega
  obtain ⟨way, ob2, hway, hp2, e2⟩ := take_call hp1 (many := 8) (by omega) (by omega) (S := [ob1]) (p := 0) rfl [some (.ref 0), some (.int m), some (.int (x + 1 : Nat)), none, none, none, none, none]
  rw [show ((8 : Nat) : Int) = 8 from rfl, List.set_cons_zero] at e2
  obtain ⟨f, S', e3, rfl, ob3, L, hp3, c, rfl⟩ := webs_loop hp2 (n := x + 1) (way := way) (by omega) hway (most := .int m) (x7 := none)
  refine ⟨x + 1, L.mergeSort tle, ob3, by omega, gw_of (by omega) (by omega) c, hp3, ?_⟩
  have s1 : sSet 2 (eOp opAdd (eK (.int 1)) (mBind (lCons (eVar 0) (lCons (eVar 1) lNil)) (callF 2 f__law_take))) [some (.ref 0), some (.int m), none, none, none, none, none, none] [ob] =
      .ok (.next [some (.ref 0), some (.int m), some (.int (x + 1 : Nat)), none, none, none, none, none]) [ob1] := by
    simp only [Out.bind_ok, mBind_app, mRet_app, eVar_0, eVar_1, eVar_2, eVar_3, eVar_4, eVar_5, eVar_6, eVar_7, eVar_8, eVar_9, eVar_10, eK_app, eOp_app, asB_bl, eTest_app, tru_bl, eTru_app, eChain_app, bNot_app, bAnd_app, bOr_app, eNot_app, eAnd_app, eOr_app, eIf_app, eUn_app, lNil_app, lCons_app, eTup_app, eLst_app, eLstM_app, eCall_app, eSlice_app, asI_int, eMeth_app, sNext_app, sNever_app, sBrk_app, sCont_app, sSeq_app, sSet_app, sExpr_app, sRet_app, sRetN_app, sIf_app, sAsg_app, eRg1_app, eIsI_app, opAdd_int, opSub_int, opCmpI_int, opLt_int, opEq_int, tgName_app, tgNil_app, tgCons_app, tgTup_app, clr_nil', clr_cons', ofO_some, opIx_tup0, opIx_tup1, fLen_tup, fLen_lst, fTuple_lst, startD, isTy, List.map_cons, List.map_nil, List.length_cons, List.length_nil, List.cons_append, List.nil_append, List.replicate, Nat.reduceAdd, Nat.reduceSub, List.set_cons_zero, List.set_cons_succ, reduceIte, eq_self, Bool.false_eq_true, Bool.not_true, Bool.not_false, Option.bind_some, Bool.xor_false, Bool.xor_true, decide_true, decide_false, e1, hn]
  have s2 : sSet 3 (mBind (lCons (eVar 0) (lCons (eK (.int 8)) lNil)) (callF 2 f__law_take)) [some (.ref 0), some (.int m), some (.int (x + 1 : Nat)), none, none, none, none, none] [ob1] =
      .ok (.next [some (.ref 0), some (.int m), some (.int (x + 1 : Nat)), some (.int way), none, none, none, none]) [ob2] := by
    simp only [Out.bind_ok, mBind_app, mRet_app, eVar_0, eVar_1, eVar_2, eVar_3, eVar_4, eVar_5, eVar_6, eVar_7, eVar_8, eVar_9, eVar_10, eK_app, eOp_app, asB_bl, eTest_app, tru_bl, eTru_app, eChain_app, bNot_app, bAnd_app, bOr_app, eNot_app, eAnd_app, eOr_app, eIf_app, eUn_app, lNil_app, lCons_app, eTup_app, eLst_app, eLstM_app, eCall_app, eSlice_app, asI_int, eMeth_app, sNext_app, sNever_app, sBrk_app, sCont_app, sSeq_app, sSet_app, sExpr_app, sRet_app, sRetN_app, sIf_app, sAsg_app, eRg1_app, eIsI_app, opAdd_int, opSub_int, opCmpI_int, opLt_int, opEq_int, tgName_app, tgNil_app, tgCons_app, tgTup_app, clr_nil', clr_cons', ofO_some, opIx_tup0, opIx_tup1, fLen_tup, fLen_lst, fTuple_lst, startD, isTy, List.map_cons, List.map_nil, List.length_cons, List.length_nil, List.cons_append, List.nil_append, List.replicate, Nat.reduceAdd, Nat.reduceSub, List.set_cons_zero, List.set_cons_succ, reduceIte, eq_self, Bool.false_eq_true, Bool.not_true, Bool.not_false, Option.bind_some, Bool.xor_false, Bool.xor_true, decide_true, decide_false, e2]
  have s3 : sSet 4 (eLstM lNil) [some (.ref 0), some (.int m), some (.int (x + 1 : Nat)), some (.int way), none, none, none, none] [ob2] =
      .ok (.next [some (.ref 0), some (.int m), some (.int (x + 1 : Nat)), some (.int way), some (.ref 1), none, none, none]) [ob2, tiesOb []] := by
    simp only [Out.bind_ok, mBind_app, mRet_app, eVar_0, eVar_1, eVar_2, eVar_3, eVar_4, eVar_5, eVar_6, eVar_7, eVar_8, eVar_9, eVar_10, eK_app, eOp_app, asB_bl, eTest_app, tru_bl, eTru_app, eChain_app, bNot_app, bAnd_app, bOr_app, eNot_app, eAnd_app, eOr_app, eIf_app, eUn_app, lNil_app, lCons_app, eTup_app, eLst_app, eLstM_app, eCall_app, eSlice_app, asI_int, eMeth_app, sNext_app, sNever_app, sBrk_app, sCont_app, sSeq_app, sSet_app, sExpr_app, sRet_app, sRetN_app, sIf_app, sAsg_app, eRg1_app, eIsI_app, opAdd_int, opSub_int, opCmpI_int, opLt_int, opEq_int, tgName_app, tgNil_app, tgCons_app, tgTup_app, clr_nil', clr_cons', ofO_some, opIx_tup0, opIx_tup1, fLen_tup, fLen_lst, fTuple_lst, startD, isTy, List.map_cons, List.map_nil, List.length_cons, List.length_nil, List.cons_append, List.nil_append, List.replicate, Nat.reduceAdd, Nat.reduceSub, List.set_cons_zero, List.set_cons_succ, reduceIte, eq_self, Bool.false_eq_true, Bool.not_true, Bool.not_false, Option.bind_some, Bool.xor_false, Bool.xor_true, decide_true, decide_false, mkLstM]
    rw [if_pos (Nat.zero_le _)]
    rfl
  have s5 : eCall fTuple (lCons (eCall fSorted (lCons (eVar 4) lNil)) lNil) [some (.ref 0), some (.int m), some (.int (x + 1 : Nat)), some (.int way), some (.ref 1), none, none, none] [ob3, tiesOb L] = .ok (.tup ((L.mergeSort tle).map tieD)) [ob3, tiesOb L] :=
    eCall1_ok (eCall1_ok (d := .ref 1) rfl (sorted_ties (σ := []) rfl)) (fTuple_lst _)
  have e : m__law_any_web [some (.ref 0), some (.int m), none, none, none, none, none, none] [ob] = .ok (.ret (.pd (webD (x + 1) (L.mergeSort tle)))) [ob3, tiesOb L] := by
    unfold m__law_any_web
    refine (sSeq_next s1).trans ?_
    refine (sSeq_next s2).trans ?_
    refine (sSeq_next s3).trans ?_
    refine (sSeq_next e3).trans ?_
    refine sRet_ok ?_
    rw [eTup_app, lCons_app]
    show ((Out.ok (D.int (x + 1 : Nat)) _).bind _).bind _ = _
    rw [Out.bind_ok, lCons_app, s5]
    simp only [Out.bind_ok, mBind_app, mRet_app, eVar_0, eVar_1, eVar_2, eVar_3, eVar_4, eVar_5, eVar_6, eVar_7, eVar_8, eVar_9, eVar_10, eK_app, eOp_app, asB_bl, eTest_app, tru_bl, eTru_app, eChain_app, bNot_app, bAnd_app, bOr_app, eNot_app, eAnd_app, eOr_app, eIf_app, eUn_app, lNil_app, lCons_app, eTup_app, eLst_app, eLstM_app, eCall_app, eSlice_app, asI_int, eMeth_app, sNext_app, sNever_app, sBrk_app, sCont_app, sSeq_app, sSet_app, sExpr_app, sRet_app, sRetN_app, sIf_app, sAsg_app, eRg1_app, eIsI_app, opAdd_int, opSub_int, opCmpI_int, opLt_int, opEq_int, tgName_app, tgNil_app, tgCons_app, tgTup_app, clr_nil', clr_cons', ofO_some, opIx_tup0, opIx_tup1, fLen_tup, fLen_lst, fTuple_lst, startD, isTy, List.map_cons, List.map_nil, List.length_cons, List.length_nil, List.cons_append, List.nil_append, List.replicate, Nat.reduceAdd, Nat.reduceSub, List.set_cons_zero, List.set_cons_succ, reduceIte, eq_self, Bool.false_eq_true, Bool.not_true, Bool.not_false, Option.bind_some, Bool.xor_false, Bool.xor_true, decide_true, decide_false, mkTup2]
  unfold f__law_any_web runF
  show (match m__law_any_web [some (.ref 0), some (.int m), none, none, none, none, none, none] [ob] with | .ok (.ret d) S' => fin 1 d S' | .ok (.next _) S' => fin 1 .non S' | .ok _ _ => .stuck | .exc e _ S' => _ | .stuck => .stuck) = _
  rw [e]
  show fin 1 (.pd (webD (x + 1) (L.mergeSort tle))) [ob3, tiesOb L] = _
  unfold fin
  simp [hp3.pd]
theorem any_web_call {ob : Ob} (hp : IsPool ob) {S : Sto} {p : Nat} (hS : S[p]? = some ob) {m : Nat} (m1 : 1 ≤ m) (m12 : m ≤ 12) (σ : Sl) : ∃ n ts ob', n ≤ m ∧ GW n ts ∧ IsPool ob' ∧ callF 2 f__law_any_web [.ref p, .int m] σ S = .ok (.pd (webD n ts)) (S.set p ob') := by
  obtain ⟨n, ts, ob', hm, w, hp', e⟩ := any_web_ok hp m1 m12
  exact ⟨n, ts, ob', hm, w, hp', callF_ref hS hp.pd rfl e rfl rfl hp'.pd σ⟩
end K01
end
section
namespace K01
open PySem PySem.Spec PyProof.Rows L2 DL
def PoolAt (S : Sto) (p : Nat) : Prop := ∃ ob, IsPool ob ∧ S[p]? = some ob
theorem PoolAt.lt {S : Sto} {p : Nat} (h : PoolAt S p) : p < S.length := by
  obtain ⟨ob, _, e⟩ := h
  rcases Nat.lt_or_ge p S.length with h | h
  · exact h
  · rw [List.getElem?_eq_none h] at e; cases e
theorem take_at {S : Sto} {p : Nat} (h : PoolAt S p) {many : Nat} (h1 : 1 ≤ many) (h2 : many ≤ 1000000) (σ : Sl) : ∃ (x : Nat) (S' : Sto), x < many ∧ PoolAt S' p ∧ S'.length = S.length ∧ (∀ q, q ≠ p → S'[q]? = S[q]?) ∧ callF 2 f__law_take [.ref p, .int many] σ S = .ok (.int x) S' := by
  have hlt := h.lt
  obtain ⟨ob, hp, hS⟩ := h
  obtain ⟨x, ob', hx, hp', e⟩ := take_call hp h1 h2 hS σ
  exact ⟨x, S.set p ob', hx, ⟨ob', hp', by rw [List.getElem?_set_self hlt]⟩, by rw [List.length_set], fun q hq => by rw [List.getElem?_set_ne (Ne.symm hq)], e⟩
theorem any_at {S : Sto} {p : Nat} (h : PoolAt S p) {m : Nat} (m1 : 1 ≤ m) (m12 : m ≤ 12) (σ : Sl) : ∃ n ts S', n ≤ m ∧ GW n ts ∧ PoolAt S' p ∧ S'.length = S.length ∧ callF 2 f__law_any_web [.ref p, .int m] σ S = .ok (.pd (webD n ts)) S' := by
  have hlt := h.lt
  obtain ⟨ob, hp, hS⟩ := h
  obtain ⟨n, ts, ob', hm, w, hp', e⟩ := any_web_call hp hS m1 m12 σ
  exact ⟨n, ts, S.set p ob', hm, w, ⟨ob', hp', by rw [List.getElem?_set_self hlt]⟩, by rw [List.length_set], e⟩
theorem runF_ref {n : Nat} {m : DM Fl} {ds : List D} {ob ob' : Ob} {x : PyData} {r : Sto} (h : m (startD n ds) [ob] = .ok (.ret (.pd x)) (ob' :: r)) (hp : pdOb ob' = true) : runF n m ds [ob] = .ok (.pd x) [ob'] := by
  unfold runF
  rw [h]
  show fin 1 (.pd x) (ob' :: r) = _
  unfold fin
  simp [hp]
end K01
end
section
namespace K01
open PySem PySem.Spec PyProof.Rows L2 DL
/-! ### is_web of anything -/
def belowB (m : Int) : PyData → Bool
  | .int i => decide (0 ≤ i) && decide (i < m)
  | _ => false
theorem is_whole_gen (x : PyData) : f_is_whole [.pd x] [] = .ok (.bl (match x with | .int _ => true | _ => false)) [] := by
  refine runF_pure (S' := []) ?_
  cases x <;> simp [m_is_whole, startD, isTy]
theorem is_below_gen (x : PyData) (m : Int) : f_is_below [.pd x, .int m] [] = .ok (.bl (belowB m x)) [] := by
  have h := fun σ S => callF_pd (n := 1) (is_whole_gen x) rfl rfl rfl rfl σ S
  cases x with
  | int i => exact is_below_int i m
  | _ =>
    refine runF_pure (S' := []) ?_
    simp only [m_is_below, Out.bind_ok, mBind_app, mRet_app, eVar_0, eVar_1, eVar_2, eVar_3, eVar_4, eVar_5, eVar_6, eVar_7, eVar_8, eVar_9, eVar_10, eK_app, eOp_app, asB_bl, eTest_app, tru_bl, eTru_app, eChain_app, bNot_app, bAnd_app, bOr_app, eNot_app, eAnd_app, eOr_app, eIf_app, eUn_app, lNil_app, lCons_app, eTup_app, eLst_app, eLstM_app, eCall_app, eSlice_app, asI_int, eMeth_app, sNext_app, sNever_app, sBrk_app, sCont_app, sSeq_app, sSet_app, sExpr_app, sRet_app, sRetN_app, sIf_app, sAsg_app, eRg1_app, eIsI_app, opAdd_int, opSub_int, opCmpI_int, opLt_int, opEq_int, tgName_app, tgNil_app, tgCons_app, tgTup_app, clr_nil', clr_cons', ofO_some, opIx_tup0, opIx_tup1, fLen_tup, fLen_lst, fTuple_lst, startD, isTy, List.map_cons, List.map_nil, List.length_cons, List.length_nil, List.cons_append, List.nil_append, List.replicate, Nat.reduceAdd, Nat.reduceSub, List.set_cons_zero, List.set_cons_succ, reduceIte, eq_self, Bool.false_eq_true, Bool.not_true, Bool.not_false, Option.bind_some, Bool.xor_false, Bool.xor_true, decide_true, decide_false, h]
    rfl
theorem n2_0 : decide (((0 : Nat) : Int) = 2) = false := rfl
theorem n2_1 : decide (((1 : Nat) : Int) = 2) = false := rfl
theorem n2_3 (k : Nat) : decide (((k + 1 + 1 + 1 : Nat) : Int) = 2) = false := decide_eq_false (by omega)
def areB (m : Int) : PyData → Bool
  | .tuple xs => xs.all (belowB m)
  | _ => false
/-- its tuple is not too long -/
def shortT : PyData → Prop
  | .tuple xs => xs.length ≤ 100000
  | _ => True
theorem ty_tupB (x : PyData) (S : Sto) : isTy S .tuple (.pd x) = some (match x with | .tuple _ => true | _ => false) := by cases x <;> rfl
theorem are_below_gen (x : PyData) (m : Int) (hx : shortT x) : f_are_below [.pd x, .int m] [] = .ok (.bl (areB m x)) [] := by
  refine runF_pure (S' := []) ?_
  cases x with
  | tuple xs =>
    have e : eLc [2] (iSeq (eVar 0)) (tgName 2) (mRet true) qare_below_e1 [some (.tup xs), some (.int m), none] [] = .ok (.lst (xs.map fun y => .bool (belowB m y))) [] := by
      refine eLc_all (gu := .no) xs (fun y => .pd y) (fun y => .bool (belowB m y)) (iSeq_tup (xs := xs) (by simp only [Out.bind_ok, mBind_app, mRet_app, eVar_0, eVar_1, eVar_2, eVar_3, eVar_4, eVar_5, eVar_6, eVar_7, eVar_8, eVar_9, eVar_10, eK_app, eOp_app, asB_bl, eTest_app, tru_bl, eTru_app, eChain_app, bNot_app, bAnd_app, bOr_app, eNot_app, eAnd_app, eOr_app, eIf_app, eUn_app, lNil_app, lCons_app, eTup_app, eLst_app, eLstM_app, eCall_app, eSlice_app, asI_int, eMeth_app, sNext_app, sNever_app, sBrk_app, sCont_app, sSeq_app, sSet_app, sExpr_app, sRet_app, sRetN_app, sIf_app, sAsg_app, eRg1_app, eIsI_app, opAdd_int, opSub_int, opCmpI_int, opLt_int, opEq_int, tgName_app, tgNil_app, tgCons_app, tgTup_app, clr_nil', clr_cons', ofO_some, opIx_tup0, opIx_tup1, fLen_tup, fLen_lst, fTuple_lst, startD, isTy, List.map_cons, List.map_nil, List.length_cons, List.length_nil, List.cons_append, List.nil_append, List.replicate, Nat.reduceAdd, Nat.reduceSub, List.set_cons_zero, List.set_cons_succ, reduceIte, eq_self, Bool.false_eq_true, Bool.not_true, Bool.not_false, Option.bind_some, Bool.xor_false, Bool.xor_true, decide_true, decide_false])) (by exact trivial) (fun y _ => ⟨_, rfl, ?_⟩) (le_size hx)
      have h := fun σ S => callF_pd (n := 2) (is_below_gen y m) rfl rfl rfl rfl σ S
      simp only [Out.bind_ok, mBind_app, mRet_app, eVar_0, eVar_1, eVar_2, eVar_3, eVar_4, eVar_5, eVar_6, eVar_7, eVar_8, eVar_9, eVar_10, eK_app, eOp_app, asB_bl, eTest_app, tru_bl, eTru_app, eChain_app, bNot_app, bAnd_app, bOr_app, eNot_app, eAnd_app, eOr_app, eIf_app, eUn_app, lNil_app, lCons_app, eTup_app, eLst_app, eLstM_app, eCall_app, eSlice_app, asI_int, eMeth_app, sNext_app, sNever_app, sBrk_app, sCont_app, sSeq_app, sSet_app, sExpr_app, sRet_app, sRetN_app, sIf_app, sAsg_app, eRg1_app, eIsI_app, opAdd_int, opSub_int, opCmpI_int, opLt_int, opEq_int, tgName_app, tgNil_app, tgCons_app, tgTup_app, clr_nil', clr_cons', ofO_some, opIx_tup0, opIx_tup1, fLen_tup, fLen_lst, fTuple_lst, startD, isTy, List.map_cons, List.map_nil, List.length_cons, List.length_nil, List.cons_append, List.nil_append, List.replicate, Nat.reduceAdd, Nat.reduceSub, List.set_cons_zero, List.set_cons_succ, reduceIte, eq_self, Bool.false_eq_true, Bool.not_true, Bool.not_false, Option.bind_some, Bool.xor_false, Bool.xor_true, decide_true, decide_false, qare_below_e1, h]
    simp only [Out.bind_ok, mBind_app, mRet_app, eVar_0, eVar_1, eVar_2, eVar_3, eVar_4, eVar_5, eVar_6, eVar_7, eVar_8, eVar_9, eVar_10, eK_app, eOp_app, asB_bl, eTest_app, tru_bl, eTru_app, eChain_app, bNot_app, bAnd_app, bOr_app, eNot_app, eAnd_app, eOr_app, eIf_app, eUn_app, lNil_app, lCons_app, eTup_app, eLst_app, eLstM_app, eCall_app, eSlice_app, asI_int, eMeth_app, sNext_app, sNever_app, sBrk_app, sCont_app, sSeq_app, sSet_app, sExpr_app, sRet_app, sRetN_app, sIf_app, sAsg_app, eRg1_app, eIsI_app, opAdd_int, opSub_int, opCmpI_int, opLt_int, opEq_int, tgName_app, tgNil_app, tgCons_app, tgTup_app, clr_nil', clr_cons', ofO_some, opIx_tup0, opIx_tup1, fLen_tup, fLen_lst, fTuple_lst, startD, isTy, List.map_cons, List.map_nil, List.length_cons, List.length_nil, List.cons_append, List.nil_append, List.replicate, Nat.reduceAdd, Nat.reduceSub, List.set_cons_zero, List.set_cons_succ, reduceIte, eq_self, Bool.false_eq_true, Bool.not_true, Bool.not_false, Option.bind_some, Bool.xor_false, Bool.xor_true, decide_true, decide_false, m_are_below, ty_tupB, e, fAll_map]
    rfl
  | _ => simp only [Out.bind_ok, mBind_app, mRet_app, eVar_0, eVar_1, eVar_2, eVar_3, eVar_4, eVar_5, eVar_6, eVar_7, eVar_8, eVar_9, eVar_10, eK_app, eOp_app, asB_bl, eTest_app, tru_bl, eTru_app, eChain_app, bNot_app, bAnd_app, bOr_app, eNot_app, eAnd_app, eOr_app, eIf_app, eUn_app, lNil_app, lCons_app, eTup_app, eLst_app, eLstM_app, eCall_app, eSlice_app, asI_int, eMeth_app, sNext_app, sNever_app, sBrk_app, sCont_app, sSeq_app, sSet_app, sExpr_app, sRet_app, sRetN_app, sIf_app, sAsg_app, eRg1_app, eIsI_app, opAdd_int, opSub_int, opCmpI_int, opLt_int, opEq_int, tgName_app, tgNil_app, tgCons_app, tgTup_app, clr_nil', clr_cons', ofO_some, opIx_tup0, opIx_tup1, fLen_tup, fLen_lst, fTuple_lst, startD, isTy, List.map_cons, List.map_nil, List.length_cons, List.length_nil, List.cons_append, List.nil_append, List.replicate, Nat.reduceAdd, Nat.reduceSub, List.set_cons_zero, List.set_cons_succ, reduceIte, eq_self, Bool.false_eq_true, Bool.not_true, Bool.not_false, Option.bind_some, Bool.xor_false, Bool.xor_true, decide_true, decide_false, m_are_below, ty_tupB]; rfl
def tieB (m : Int) : PyData → Bool
  | .tuple [.int a, .int b] => belowB m (.int a) && belowB m (.int b) && decide (a < b)
  | _ => false
theorem belowB_int {m : Int} {x : PyData} (h : belowB m x = true) : ∃ i, x = .int i := by
  cases x with
  | int i => exact ⟨i, rfl⟩
  | _ => cases h
theorem is_tie_gen (x : PyData) (m : Int) (hx : shortT x) : f_is_tie [.pd x, .int m] [] = .ok (.bl (tieB m x)) [] := by
  have h1 := fun σ S => callF_pd (n := 2) (are_below_gen x m hx) rfl rfl rfl rfl σ S
  refine runF_pure (S' := []) ?_
  cases hb : areB m x with
  | false =>
    rw [hb] at h1
    simp only [Out.bind_ok, mBind_app, mRet_app, eVar_0, eVar_1, eVar_2, eVar_3, eVar_4, eVar_5, eVar_6, eVar_7, eVar_8, eVar_9, eVar_10, eK_app, eOp_app, asB_bl, eTest_app, tru_bl, eTru_app, eChain_app, bNot_app, bAnd_app, bOr_app, eNot_app, eAnd_app, eOr_app, eIf_app, eUn_app, lNil_app, lCons_app, eTup_app, eLst_app, eLstM_app, eCall_app, eSlice_app, asI_int, eMeth_app, sNext_app, sNever_app, sBrk_app, sCont_app, sSeq_app, sSet_app, sExpr_app, sRet_app, sRetN_app, sIf_app, sAsg_app, eRg1_app, eIsI_app, opAdd_int, opSub_int, opCmpI_int, opLt_int, opEq_int, tgName_app, tgNil_app, tgCons_app, tgTup_app, clr_nil', clr_cons', ofO_some, opIx_tup0, opIx_tup1, fLen_tup, fLen_lst, fTuple_lst, startD, isTy, List.map_cons, List.map_nil, List.length_cons, List.length_nil, List.cons_append, List.nil_append, List.replicate, Nat.reduceAdd, Nat.reduceSub, List.set_cons_zero, List.set_cons_succ, reduceIte, eq_self, Bool.false_eq_true, Bool.not_true, Bool.not_false, Option.bind_some, Bool.xor_false, Bool.xor_true, decide_true, decide_false, m_is_tie, h1]
    have : tieB m x = false := by
      unfold tieB
      split
      · rename_i a b
        have : (belowB m (.int a) && belowB m (.int b)) = false := by simpa [areB] using hb
        rw [this]; rfl
      · rfl
    rw [this]
  | true =>
    rw [hb] at h1
    cases x with
    | tuple xs =>
      match xs, hb with
      | [], _ => simp only [Out.bind_ok, mBind_app, mRet_app, eVar_0, eVar_1, eVar_2, eVar_3, eVar_4, eVar_5, eVar_6, eVar_7, eVar_8, eVar_9, eVar_10, eK_app, eOp_app, asB_bl, eTest_app, tru_bl, eTru_app, eChain_app, bNot_app, bAnd_app, bOr_app, eNot_app, eAnd_app, eOr_app, eIf_app, eUn_app, lNil_app, lCons_app, eTup_app, eLst_app, eLstM_app, eCall_app, eSlice_app, asI_int, eMeth_app, sNext_app, sNever_app, sBrk_app, sCont_app, sSeq_app, sSet_app, sExpr_app, sRet_app, sRetN_app, sIf_app, sAsg_app, eRg1_app, eIsI_app, opAdd_int, opSub_int, opCmpI_int, opLt_int, opEq_int, tgName_app, tgNil_app, tgCons_app, tgTup_app, clr_nil', clr_cons', ofO_some, opIx_tup0, opIx_tup1, fLen_tup, fLen_lst, fTuple_lst, startD, isTy, List.map_cons, List.map_nil, List.length_cons, List.length_nil, List.cons_append, List.nil_append, List.replicate, Nat.reduceAdd, Nat.reduceSub, List.set_cons_zero, List.set_cons_succ, reduceIte, eq_self, Bool.false_eq_true, Bool.not_true, Bool.not_false, Option.bind_some, Bool.xor_false, Bool.xor_true, decide_true, decide_false, m_is_tie, h1, fLen_tup, n2_0, n2_1]; rfl
      | [a], _ => simp only [Out.bind_ok, mBind_app, mRet_app, eVar_0, eVar_1, eVar_2, eVar_3, eVar_4, eVar_5, eVar_6, eVar_7, eVar_8, eVar_9, eVar_10, eK_app, eOp_app, asB_bl, eTest_app, tru_bl, eTru_app, eChain_app, bNot_app, bAnd_app, bOr_app, eNot_app, eAnd_app, eOr_app, eIf_app, eUn_app, lNil_app, lCons_app, eTup_app, eLst_app, eLstM_app, eCall_app, eSlice_app, asI_int, eMeth_app, sNext_app, sNever_app, sBrk_app, sCont_app, sSeq_app, sSet_app, sExpr_app, sRet_app, sRetN_app, sIf_app, sAsg_app, eRg1_app, eIsI_app, opAdd_int, opSub_int, opCmpI_int, opLt_int, opEq_int, tgName_app, tgNil_app, tgCons_app, tgTup_app, clr_nil', clr_cons', ofO_some, opIx_tup0, opIx_tup1, fLen_tup, fLen_lst, fTuple_lst, startD, isTy, List.map_cons, List.map_nil, List.length_cons, List.length_nil, List.cons_append, List.nil_append, List.replicate, Nat.reduceAdd, Nat.reduceSub, List.set_cons_zero, List.set_cons_succ, reduceIte, eq_self, Bool.false_eq_true, Bool.not_true, Bool.not_false, Option.bind_some, Bool.xor_false, Bool.xor_true, decide_true, decide_false, m_is_tie, h1, fLen_tup, n2_0, n2_1]; cases a <;> rfl
      | [a, b], hb =>
        have hab : belowB m a = true ∧ belowB m b = true := by simpa [areB] using hb
        obtain ⟨i, rfl⟩ := belowB_int hab.1
        obtain ⟨j, rfl⟩ := belowB_int hab.2
        simp only [Out.bind_ok, mBind_app, mRet_app, eVar_0, eVar_1, eVar_2, eVar_3, eVar_4, eVar_5, eVar_6, eVar_7, eVar_8, eVar_9, eVar_10, eK_app, eOp_app, asB_bl, eTest_app, tru_bl, eTru_app, eChain_app, bNot_app, bAnd_app, bOr_app, eNot_app, eAnd_app, eOr_app, eIf_app, eUn_app, lNil_app, lCons_app, eTup_app, eLst_app, eLstM_app, eCall_app, eSlice_app, asI_int, eMeth_app, sNext_app, sNever_app, sBrk_app, sCont_app, sSeq_app, sSet_app, sExpr_app, sRet_app, sRetN_app, sIf_app, sAsg_app, eRg1_app, eIsI_app, opAdd_int, opSub_int, opCmpI_int, opLt_int, opEq_int, tgName_app, tgNil_app, tgCons_app, tgTup_app, clr_nil', clr_cons', ofO_some, opIx_tup0, opIx_tup1, fLen_tup, fLen_lst, fTuple_lst, startD, isTy, List.map_cons, List.map_nil, List.length_cons, List.length_nil, List.cons_append, List.nil_append, List.replicate, Nat.reduceAdd, Nat.reduceSub, List.set_cons_zero, List.set_cons_succ, reduceIte, eq_self, Bool.false_eq_true, Bool.not_true, Bool.not_false, Option.bind_some, Bool.xor_false, Bool.xor_true, decide_true, decide_false, m_is_tie, h1, fLen_tup, show (((0 + 1 + 1 : Nat) : Int) = 2) from rfl]
        show Out.ok (Fl.ret (.bl (decide (i < j)))) [] = Out.ok (Fl.ret (.bl (belowB m (.int i) && belowB m (.int j) && decide (i < j)))) []
        rw [hab.1, hab.2]; rfl
      | a :: b :: c :: r, _ =>
        simp only [Out.bind_ok, mBind_app, mRet_app, eVar_0, eVar_1, eVar_2, eVar_3, eVar_4, eVar_5, eVar_6, eVar_7, eVar_8, eVar_9, eVar_10, eK_app, eOp_app, asB_bl, eTest_app, tru_bl, eTru_app, eChain_app, bNot_app, bAnd_app, bOr_app, eNot_app, eAnd_app, eOr_app, eIf_app, eUn_app, lNil_app, lCons_app, eTup_app, eLst_app, eLstM_app, eCall_app, eSlice_app, asI_int, eMeth_app, sNext_app, sNever_app, sBrk_app, sCont_app, sSeq_app, sSet_app, sExpr_app, sRet_app, sRetN_app, sIf_app, sAsg_app, eRg1_app, eIsI_app, opAdd_int, opSub_int, opCmpI_int, opLt_int, opEq_int, tgName_app, tgNil_app, tgCons_app, tgTup_app, clr_nil', clr_cons', ofO_some, opIx_tup0, opIx_tup1, fLen_tup, fLen_lst, fTuple_lst, startD, isTy, List.map_cons, List.map_nil, List.length_cons, List.length_nil, List.cons_append, List.nil_append, List.replicate, Nat.reduceAdd, Nat.reduceSub, List.set_cons_zero, List.set_cons_succ, reduceIte, eq_self, Bool.false_eq_true, Bool.not_true, Bool.not_false, Option.bind_some, Bool.xor_false, Bool.xor_true, decide_true, decide_false, m_is_tie, h1, fLen_tup, n2_3]
        cases a <;> cases b <;> rfl
    | _ => cases hb
def ltB : PyData → PyData → Bool
  | .tuple [.int a, .int b], .tuple [.int c, .int d] => decide (a < c) || (decide (a = c) && decide (b < d))
  | _, _ => false
def risB (ts : List PyData) : Bool := (ts.zip (ts.drop 1)).all fun p => ltB p.1 p.2
theorem tieB_is {m : Int} {x : PyData} (h : tieB m x = true) : ∃ a b, x = .tuple [.int a, .int b] := by
  unfold tieB at h
  split at h
  · exact ⟨_, _, rfl⟩
  · cases h
theorem are_rising_gen (ts : List PyData) (h : ∀ t ∈ ts, ∃ a b, t = .tuple [.int a, .int b]) (hl : ts.length ≤ 100000) : f_are_rising [.tup ts] [] = .ok (.bl (risB ts)) [] := by
  refine runF_pure (S' := []) ?_
  have z : zipIt ts (ts.drop 1) = (ts.zip (ts.drop 1)).map fun p => D.tup [p.1, p.2] := by
    unfold zipIt
    rw [List.zip, List.map_zipWith]
  have e : eLc [1, 2] (DL.iZip (lCons (eVar 0) (lCons (eSlice (eVar 0) (mBind (eK (.int 1)) asI) (mRet none)) lNil))) (tgTup (tgCons (tgName 1) (tgCons (tgName 2) tgNil))) (mRet true) qare_rising_e1 [some (.tup ts), none, none] [] = .ok (.lst ((ts.zip (ts.drop 1)).map fun p => .bool (ltB p.1 p.2))) [] := by
    refine eLc_all (gu := .no) (ts.zip (ts.drop 1)) (fun p => D.tup [p.1, p.2]) (fun p => .bool (ltB p.1 p.2)) ?_ (by exact trivial) (fun p hm => ⟨_, rfl, ?_⟩) (le_size ?_)
    · unfold DL.iZip
      simp only [Out.bind_ok, mBind_app, mRet_app, eVar_0, eVar_1, eVar_2, eVar_3, eVar_4, eVar_5, eVar_6, eVar_7, eVar_8, eVar_9, eVar_10, eK_app, eOp_app, asB_bl, eTest_app, tru_bl, eTru_app, eChain_app, bNot_app, bAnd_app, bOr_app, eNot_app, eAnd_app, eOr_app, eIf_app, eUn_app, lNil_app, lCons_app, eTup_app, eLst_app, eLstM_app, eCall_app, eSlice_app, asI_int, eMeth_app, sNext_app, sNever_app, sBrk_app, sCont_app, sSeq_app, sSet_app, sExpr_app, sRet_app, sRetN_app, sIf_app, sAsg_app, eRg1_app, eIsI_app, opAdd_int, opSub_int, opCmpI_int, opLt_int, opEq_int, tgName_app, tgNil_app, tgCons_app, tgTup_app, clr_nil', clr_cons', ofO_some, opIx_tup0, opIx_tup1, fLen_tup, fLen_lst, fTuple_lst, startD, isTy, List.map_cons, List.map_nil, List.length_cons, List.length_nil, List.cons_append, List.nil_append, List.replicate, Nat.reduceAdd, Nat.reduceSub, List.set_cons_zero, List.set_cons_succ, reduceIte, eq_self, Bool.false_eq_true, Bool.not_true, Bool.not_false, Option.bind_some, Bool.xor_false, Bool.xor_true, decide_true, decide_false, slD, cut1, wkZip]
      rw [z]
    · obtain ⟨x, y⟩ := p
      obtain ⟨h1, h2⟩ := List.of_mem_zip hm
      obtain ⟨a, b, rfl⟩ := h x h1
      obtain ⟨c, d, rfl⟩ := h y (List.mem_of_mem_drop h2)
      simp only [Out.bind_ok, mBind_app, mRet_app, eVar_0, eVar_1, eVar_2, eVar_3, eVar_4, eVar_5, eVar_6, eVar_7, eVar_8, eVar_9, eVar_10, eK_app, eOp_app, asB_bl, eTest_app, tru_bl, eTru_app, eChain_app, bNot_app, bAnd_app, bOr_app, eNot_app, eAnd_app, eOr_app, eIf_app, eUn_app, lNil_app, lCons_app, eTup_app, eLst_app, eLstM_app, eCall_app, eSlice_app, asI_int, eMeth_app, sNext_app, sNever_app, sBrk_app, sCont_app, sSeq_app, sSet_app, sExpr_app, sRet_app, sRetN_app, sIf_app, sAsg_app, eRg1_app, eIsI_app, opAdd_int, opSub_int, opCmpI_int, opLt_int, opEq_int, tgName_app, tgNil_app, tgCons_app, tgTup_app, clr_nil', clr_cons', ofO_some, opIx_tup0, opIx_tup1, fLen_tup, fLen_lst, fTuple_lst, startD, isTy, List.map_cons, List.map_nil, List.length_cons, List.length_nil, List.cons_append, List.nil_append, List.replicate, Nat.reduceAdd, Nat.reduceSub, List.set_cons_zero, List.set_cons_succ, reduceIte, eq_self, Bool.false_eq_true, Bool.not_true, Bool.not_false, Option.bind_some, Bool.xor_false, Bool.xor_true, decide_true, decide_false, qare_rising_e1]
      show Out.ok (D.bl (HT.lexLt [a, b] [c, d])) _ = _
      rw [lexLt2]
      rfl
    · rw [List.length_zip]; omega
  simp only [Out.bind_ok, mBind_app, mRet_app, eVar_0, eVar_1, eVar_2, eVar_3, eVar_4, eVar_5, eVar_6, eVar_7, eVar_8, eVar_9, eVar_10, eK_app, eOp_app, asB_bl, eTest_app, tru_bl, eTru_app, eChain_app, bNot_app, bAnd_app, bOr_app, eNot_app, eAnd_app, eOr_app, eIf_app, eUn_app, lNil_app, lCons_app, eTup_app, eLst_app, eLstM_app, eCall_app, eSlice_app, asI_int, eMeth_app, sNext_app, sNever_app, sBrk_app, sCont_app, sSeq_app, sSet_app, sExpr_app, sRet_app, sRetN_app, sIf_app, sAsg_app, eRg1_app, eIsI_app, opAdd_int, opSub_int, opCmpI_int, opLt_int, opEq_int, tgName_app, tgNil_app, tgCons_app, tgTup_app, clr_nil', clr_cons', ofO_some, opIx_tup0, opIx_tup1, fLen_tup, fLen_lst, fTuple_lst, startD, isTy, List.map_cons, List.map_nil, List.length_cons, List.length_nil, List.cons_append, List.nil_append, List.replicate, Nat.reduceAdd, Nat.reduceSub, List.set_cons_zero, List.set_cons_succ, reduceIte, eq_self, Bool.false_eq_true, Bool.not_true, Bool.not_false, Option.bind_some, Bool.xor_false, Bool.xor_true, decide_true, decide_false, m_are_rising, e, fAll_map]
  rfl
def isWebB : PyData → Bool
  | .tuple [.int n, .tuple ts] => belowB 13 (.int n) && !decide (n = 0) && (ts.all (tieB n) && risB ts)
  | _ => false
def shortW : PyData → Prop
  | .tuple [_, .tuple ts] => ts.length ≤ 100000 ∧ ∀ t ∈ ts, shortT t
  | _ => True
theorem is_web_gen (x : PyData) (hx : shortW x) : f_is_web [.pd x] [] = .ok (.bl (isWebB x)) [] := by
  refine runF_pure (S' := []) ?_
  cases x with
  | tuple xs =>
    match xs, hx with
    | [], _ => simp only [Out.bind_ok, mBind_app, mRet_app, eVar_0, eVar_1, eVar_2, eVar_3, eVar_4, eVar_5, eVar_6, eVar_7, eVar_8, eVar_9, eVar_10, eK_app, eOp_app, asB_bl, eTest_app, tru_bl, eTru_app, eChain_app, bNot_app, bAnd_app, bOr_app, eNot_app, eAnd_app, eOr_app, eIf_app, eUn_app, lNil_app, lCons_app, eTup_app, eLst_app, eLstM_app, eCall_app, eSlice_app, asI_int, eMeth_app, sNext_app, sNever_app, sBrk_app, sCont_app, sSeq_app, sSet_app, sExpr_app, sRet_app, sRetN_app, sIf_app, sAsg_app, eRg1_app, eIsI_app, opAdd_int, opSub_int, opCmpI_int, opLt_int, opEq_int, tgName_app, tgNil_app, tgCons_app, tgTup_app, clr_nil', clr_cons', ofO_some, opIx_tup0, opIx_tup1, fLen_tup, fLen_lst, fTuple_lst, startD, isTy, List.map_cons, List.map_nil, List.length_cons, List.length_nil, List.cons_append, List.nil_append, List.replicate, Nat.reduceAdd, Nat.reduceSub, List.set_cons_zero, List.set_cons_succ, reduceIte, eq_self, Bool.false_eq_true, Bool.not_true, Bool.not_false, Option.bind_some, Bool.xor_false, Bool.xor_true, decide_true, decide_false, m_is_web, ty_tupB, fLen_tup, n2_0, n2_1]; rfl
    | [a], _ => simp only [Out.bind_ok, mBind_app, mRet_app, eVar_0, eVar_1, eVar_2, eVar_3, eVar_4, eVar_5, eVar_6, eVar_7, eVar_8, eVar_9, eVar_10, eK_app, eOp_app, asB_bl, eTest_app, tru_bl, eTru_app, eChain_app, bNot_app, bAnd_app, bOr_app, eNot_app, eAnd_app, eOr_app, eIf_app, eUn_app, lNil_app, lCons_app, eTup_app, eLst_app, eLstM_app, eCall_app, eSlice_app, asI_int, eMeth_app, sNext_app, sNever_app, sBrk_app, sCont_app, sSeq_app, sSet_app, sExpr_app, sRet_app, sRetN_app, sIf_app, sAsg_app, eRg1_app, eIsI_app, opAdd_int, opSub_int, opCmpI_int, opLt_int, opEq_int, tgName_app, tgNil_app, tgCons_app, tgTup_app, clr_nil', clr_cons', ofO_some, opIx_tup0, opIx_tup1, fLen_tup, fLen_lst, fTuple_lst, startD, isTy, List.map_cons, List.map_nil, List.length_cons, List.length_nil, List.cons_append, List.nil_append, List.replicate, Nat.reduceAdd, Nat.reduceSub, List.set_cons_zero, List.set_cons_succ, reduceIte, eq_self, Bool.false_eq_true, Bool.not_true, Bool.not_false, Option.bind_some, Bool.xor_false, Bool.xor_true, decide_true, decide_false, m_is_web, ty_tupB, fLen_tup, n2_0, n2_1]; cases a <;> rfl
    | a :: b :: c :: r, _ =>
      simp only [Out.bind_ok, mBind_app, mRet_app, eVar_0, eVar_1, eVar_2, eVar_3, eVar_4, eVar_5, eVar_6, eVar_7, eVar_8, eVar_9, eVar_10, eK_app, eOp_app, asB_bl, eTest_app, tru_bl, eTru_app, eChain_app, bNot_app, bAnd_app, bOr_app, eNot_app, eAnd_app, eOr_app, eIf_app, eUn_app, lNil_app, lCons_app, eTup_app, eLst_app, eLstM_app, eCall_app, eSlice_app, asI_int, eMeth_app, sNext_app, sNever_app, sBrk_app, sCont_app, sSeq_app, sSet_app, sExpr_app, sRet_app, sRetN_app, sIf_app, sAsg_app, eRg1_app, eIsI_app, opAdd_int, opSub_int, opCmpI_int, opLt_int, opEq_int, tgName_app, tgNil_app, tgCons_app, tgTup_app, clr_nil', clr_cons', ofO_some, opIx_tup0, opIx_tup1, fLen_tup, fLen_lst, fTuple_lst, startD, isTy, List.map_cons, List.map_nil, List.length_cons, List.length_nil, List.cons_append, List.nil_append, List.replicate, Nat.reduceAdd, Nat.reduceSub, List.set_cons_zero, List.set_cons_succ, reduceIte, eq_self, Bool.false_eq_true, Bool.not_true, Bool.not_false, Option.bind_some, Bool.xor_false, Bool.xor_true, decide_true, decide_false, m_is_web, ty_tupB, fLen_tup, n2_3]
      cases a <;> cases b <;> rfl
    | [a, b], hx =>
      have h1 := fun σ S => callF_pd (n := 2) (is_below_gen a 13) rfl rfl rfl rfl σ S
      simp only [Out.bind_ok, mBind_app, mRet_app, eVar_0, eVar_1, eVar_2, eVar_3, eVar_4, eVar_5, eVar_6, eVar_7, eVar_8, eVar_9, eVar_10, eK_app, eOp_app, asB_bl, eTest_app, tru_bl, eTru_app, eChain_app, bNot_app, bAnd_app, bOr_app, eNot_app, eAnd_app, eOr_app, eIf_app, eUn_app, lNil_app, lCons_app, eTup_app, eLst_app, eLstM_app, eCall_app, eSlice_app, asI_int, eMeth_app, sNext_app, sNever_app, sBrk_app, sCont_app, sSeq_app, sSet_app, sExpr_app, sRet_app, sRetN_app, sIf_app, sAsg_app, eRg1_app, eIsI_app, opAdd_int, opSub_int, opCmpI_int, opLt_int, opEq_int, tgName_app, tgNil_app, tgCons_app, tgTup_app, clr_nil', clr_cons', ofO_some, opIx_tup0, opIx_tup1, fLen_tup, fLen_lst, fTuple_lst, startD, isTy, List.map_cons, List.map_nil, List.length_cons, List.length_nil, List.cons_append, List.nil_append, List.replicate, Nat.reduceAdd, Nat.reduceSub, List.set_cons_zero, List.set_cons_succ, reduceIte, eq_self, Bool.false_eq_true, Bool.not_true, Bool.not_false, Option.bind_some, Bool.xor_false, Bool.xor_true, decide_true, decide_false, m_is_web, tgSq_tup, ty_tupB, fLen_tup, show (12 : Int) + 1 = 13 from rfl, show (((0 + 1 + 1 : Nat) : Int) = 2) from rfl, h1]
      cases hb : belowB 13 a with
      | false =>
        simp only [Out.bind_ok, mBind_app, mRet_app, eVar_0, eVar_1, eVar_2, eVar_3, eVar_4, eVar_5, eVar_6, eVar_7, eVar_8, eVar_9, eVar_10, eK_app, eOp_app, asB_bl, eTest_app, tru_bl, eTru_app, eChain_app, bNot_app, bAnd_app, bOr_app, eNot_app, eAnd_app, eOr_app, eIf_app, eUn_app, lNil_app, lCons_app, eTup_app, eLst_app, eLstM_app, eCall_app, eSlice_app, asI_int, eMeth_app, sNext_app, sNever_app, sBrk_app, sCont_app, sSeq_app, sSet_app, sExpr_app, sRet_app, sRetN_app, sIf_app, sAsg_app, eRg1_app, eIsI_app, opAdd_int, opSub_int, opCmpI_int, opLt_int, opEq_int, tgName_app, tgNil_app, tgCons_app, tgTup_app, clr_nil', clr_cons', ofO_some, opIx_tup0, opIx_tup1, fLen_tup, fLen_lst, fTuple_lst, startD, isTy, List.map_cons, List.map_nil, List.length_cons, List.length_nil, List.cons_append, List.nil_append, List.replicate, Nat.reduceAdd, Nat.reduceSub, List.set_cons_zero, List.set_cons_succ, reduceIte, eq_self, Bool.false_eq_true, Bool.not_true, Bool.not_false, Option.bind_some, Bool.xor_false, Bool.xor_true, decide_true, decide_false]
        have : isWebB (.tuple [a, b]) = false := by
          unfold isWebB
          split
          · rename_i n ts e
            cases e
            rw [hb]; rfl
          · rfl
        rw [this]
      | true =>
        obtain ⟨n, rfl⟩ := belowB_int hb
        by_cases hn : n = 0
        · subst hn
          simp only [Out.bind_ok, mBind_app, mRet_app, eVar_0, eVar_1, eVar_2, eVar_3, eVar_4, eVar_5, eVar_6, eVar_7, eVar_8, eVar_9, eVar_10, eK_app, eOp_app, asB_bl, eTest_app, tru_bl, eTru_app, eChain_app, bNot_app, bAnd_app, bOr_app, eNot_app, eAnd_app, eOr_app, eIf_app, eUn_app, lNil_app, lCons_app, eTup_app, eLst_app, eLstM_app, eCall_app, eSlice_app, asI_int, eMeth_app, sNext_app, sNever_app, sBrk_app, sCont_app, sSeq_app, sSet_app, sExpr_app, sRet_app, sRetN_app, sIf_app, sAsg_app, eRg1_app, eIsI_app, opAdd_int, opSub_int, opCmpI_int, opLt_int, opEq_int, tgName_app, tgNil_app, tgCons_app, tgTup_app, clr_nil', clr_cons', ofO_some, opIx_tup0, opIx_tup1, fLen_tup, fLen_lst, fTuple_lst, startD, isTy, List.map_cons, List.map_nil, List.length_cons, List.length_nil, List.cons_append, List.nil_append, List.replicate, Nat.reduceAdd, Nat.reduceSub, List.set_cons_zero, List.set_cons_succ, reduceIte, eq_self, Bool.false_eq_true, Bool.not_true, Bool.not_false, Option.bind_some, Bool.xor_false, Bool.xor_true, decide_true, decide_false]
          cases b <;> simp [isWebB]
        · simp only [Out.bind_ok, mBind_app, mRet_app, eVar_0, eVar_1, eVar_2, eVar_3, eVar_4, eVar_5, eVar_6, eVar_7, eVar_8, eVar_9, eVar_10, eK_app, eOp_app, asB_bl, eTest_app, tru_bl, eTru_app, eChain_app, bNot_app, bAnd_app, bOr_app, eNot_app, eAnd_app, eOr_app, eIf_app, eUn_app, lNil_app, lCons_app, eTup_app, eLst_app, eLstM_app, eCall_app, eSlice_app, asI_int, eMeth_app, sNext_app, sNever_app, sBrk_app, sCont_app, sSeq_app, sSet_app, sExpr_app, sRet_app, sRetN_app, sIf_app, sAsg_app, eRg1_app, eIsI_app, opAdd_int, opSub_int, opCmpI_int, opLt_int, opEq_int, tgName_app, tgNil_app, tgCons_app, tgTup_app, clr_nil', clr_cons', ofO_some, opIx_tup0, opIx_tup1, fLen_tup, fLen_lst, fTuple_lst, startD, isTy, List.map_cons, List.map_nil, List.length_cons, List.length_nil, List.cons_append, List.nil_append, List.replicate, Nat.reduceAdd, Nat.reduceSub, List.set_cons_zero, List.set_cons_succ, reduceIte, eq_self, Bool.false_eq_true, Bool.not_true, Bool.not_false, Option.bind_some, Bool.xor_false, Bool.xor_true, decide_true, decide_false, decide_eq_false hn]
          cases b with
          | tuple ts =>
            have hx' : ts.length ≤ 100000 ∧ ∀ t ∈ ts, shortT t := hx
            have e : eLc [3] (iSeq (eVar 2)) (tgName 3) (mRet true) qis_web_e1 [some (.tup [.int n, .tuple ts]), some (.int n), some (.tup ts), none] [] = .ok (.lst (ts.map fun t => .bool (tieB n t))) [] := by
              refine eLc_all (gu := .no) ts (fun t => .pd t) (fun t => .bool (tieB n t)) (iSeq_tup (xs := ts) (by simp only [Out.bind_ok, mBind_app, mRet_app, eVar_0, eVar_1, eVar_2, eVar_3, eVar_4, eVar_5, eVar_6, eVar_7, eVar_8, eVar_9, eVar_10, eK_app, eOp_app, asB_bl, eTest_app, tru_bl, eTru_app, eChain_app, bNot_app, bAnd_app, bOr_app, eNot_app, eAnd_app, eOr_app, eIf_app, eUn_app, lNil_app, lCons_app, eTup_app, eLst_app, eLstM_app, eCall_app, eSlice_app, asI_int, eMeth_app, sNext_app, sNever_app, sBrk_app, sCont_app, sSeq_app, sSet_app, sExpr_app, sRet_app, sRetN_app, sIf_app, sAsg_app, eRg1_app, eIsI_app, opAdd_int, opSub_int, opCmpI_int, opLt_int, opEq_int, tgName_app, tgNil_app, tgCons_app, tgTup_app, clr_nil', clr_cons', ofO_some, opIx_tup0, opIx_tup1, fLen_tup, fLen_lst, fTuple_lst, startD, isTy, List.map_cons, List.map_nil, List.length_cons, List.length_nil, List.cons_append, List.nil_append, List.replicate, Nat.reduceAdd, Nat.reduceSub, List.set_cons_zero, List.set_cons_succ, reduceIte, eq_self, Bool.false_eq_true, Bool.not_true, Bool.not_false, Option.bind_some, Bool.xor_false, Bool.xor_true, decide_true, decide_false])) (by exact trivial) (fun t ht => ⟨_, rfl, ?_⟩) (le_size hx'.1)
              have h3 := fun σ S => callF_pd (n := 2) (is_tie_gen t n (hx'.2 t ht)) rfl rfl rfl rfl σ S
              simp only [Out.bind_ok, mBind_app, mRet_app, eVar_0, eVar_1, eVar_2, eVar_3, eVar_4, eVar_5, eVar_6, eVar_7, eVar_8, eVar_9, eVar_10, eK_app, eOp_app, asB_bl, eTest_app, tru_bl, eTru_app, eChain_app, bNot_app, bAnd_app, bOr_app, eNot_app, eAnd_app, eOr_app, eIf_app, eUn_app, lNil_app, lCons_app, eTup_app, eLst_app, eLstM_app, eCall_app, eSlice_app, asI_int, eMeth_app, sNext_app, sNever_app, sBrk_app, sCont_app, sSeq_app, sSet_app, sExpr_app, sRet_app, sRetN_app, sIf_app, sAsg_app, eRg1_app, eIsI_app, opAdd_int, opSub_int, opCmpI_int, opLt_int, opEq_int, tgName_app, tgNil_app, tgCons_app, tgTup_app, clr_nil', clr_cons', ofO_some, opIx_tup0, opIx_tup1, fLen_tup, fLen_lst, fTuple_lst, startD, isTy, List.map_cons, List.map_nil, List.length_cons, List.length_nil, List.cons_append, List.nil_append, List.replicate, Nat.reduceAdd, Nat.reduceSub, List.set_cons_zero, List.set_cons_succ, reduceIte, eq_self, Bool.false_eq_true, Bool.not_true, Bool.not_false, Option.bind_some, Bool.xor_false, Bool.xor_true, decide_true, decide_false, qis_web_e1, h3]
            have hne : isWebB (.tuple [.int n, .tuple ts]) = (ts.all (tieB n) && risB ts) := by
              show (belowB 13 (.int n) && !decide (n = 0) && (ts.all (tieB n) && risB ts)) = _
              rw [hb, decide_eq_false hn]; rfl
            rw [hne]
            simp only [Out.bind_ok, mBind_app, mRet_app, eVar_0, eVar_1, eVar_2, eVar_3, eVar_4, eVar_5, eVar_6, eVar_7, eVar_8, eVar_9, eVar_10, eK_app, eOp_app, asB_bl, eTest_app, tru_bl, eTru_app, eChain_app, bNot_app, bAnd_app, bOr_app, eNot_app, eAnd_app, eOr_app, eIf_app, eUn_app, lNil_app, lCons_app, eTup_app, eLst_app, eLstM_app, eCall_app, eSlice_app, asI_int, eMeth_app, sNext_app, sNever_app, sBrk_app, sCont_app, sSeq_app, sSet_app, sExpr_app, sRet_app, sRetN_app, sIf_app, sAsg_app, eRg1_app, eIsI_app, opAdd_int, opSub_int, opCmpI_int, opLt_int, opEq_int, tgName_app, tgNil_app, tgCons_app, tgTup_app, clr_nil', clr_cons', ofO_some, opIx_tup0, opIx_tup1, fLen_tup, fLen_lst, fTuple_lst, startD, isTy, List.map_cons, List.map_nil, List.length_cons, List.length_nil, List.cons_append, List.nil_append, List.replicate, Nat.reduceAdd, Nat.reduceSub, List.set_cons_zero, List.set_cons_succ, reduceIte, eq_self, Bool.false_eq_true, Bool.not_true, Bool.not_false, Option.bind_some, Bool.xor_false, Bool.xor_true, decide_true, decide_false, ty_tupB, e, fAll_map]
            cases ha : ts.all (tieB n) with
            | false => simp only [Out.bind_ok, mBind_app, mRet_app, eVar_0, eVar_1, eVar_2, eVar_3, eVar_4, eVar_5, eVar_6, eVar_7, eVar_8, eVar_9, eVar_10, eK_app, eOp_app, asB_bl, eTest_app, tru_bl, eTru_app, eChain_app, bNot_app, bAnd_app, bOr_app, eNot_app, eAnd_app, eOr_app, eIf_app, eUn_app, lNil_app, lCons_app, eTup_app, eLst_app, eLstM_app, eCall_app, eSlice_app, asI_int, eMeth_app, sNext_app, sNever_app, sBrk_app, sCont_app, sSeq_app, sSet_app, sExpr_app, sRet_app, sRetN_app, sIf_app, sAsg_app, eRg1_app, eIsI_app, opAdd_int, opSub_int, opCmpI_int, opLt_int, opEq_int, tgName_app, tgNil_app, tgCons_app, tgTup_app, clr_nil', clr_cons', ofO_some, opIx_tup0, opIx_tup1, fLen_tup, fLen_lst, fTuple_lst, startD, isTy, List.map_cons, List.map_nil, List.length_cons, List.length_nil, List.cons_append, List.nil_append, List.replicate, Nat.reduceAdd, Nat.reduceSub, List.set_cons_zero, List.set_cons_succ, reduceIte, eq_self, Bool.false_eq_true, Bool.not_true, Bool.not_false, Option.bind_some, Bool.xor_false, Bool.xor_true, decide_true, decide_false]; rfl
            | true =>
              have h4 := fun σ S => callF_pd (n := 1) (are_rising_gen ts (fun t ht => tieB_is (List.all_eq_true.mp ha t ht)) hx'.1) rfl rfl rfl rfl σ S
              simp only [Out.bind_ok, mBind_app, mRet_app, eVar_0, eVar_1, eVar_2, eVar_3, eVar_4, eVar_5, eVar_6, eVar_7, eVar_8, eVar_9, eVar_10, eK_app, eOp_app, asB_bl, eTest_app, tru_bl, eTru_app, eChain_app, bNot_app, bAnd_app, bOr_app, eNot_app, eAnd_app, eOr_app, eIf_app, eUn_app, lNil_app, lCons_app, eTup_app, eLst_app, eLstM_app, eCall_app, eSlice_app, asI_int, eMeth_app, sNext_app, sNever_app, sBrk_app, sCont_app, sSeq_app, sSet_app, sExpr_app, sRet_app, sRetN_app, sIf_app, sAsg_app, eRg1_app, eIsI_app, opAdd_int, opSub_int, opCmpI_int, opLt_int, opEq_int, tgName_app, tgNil_app, tgCons_app, tgTup_app, clr_nil', clr_cons', ofO_some, opIx_tup0, opIx_tup1, fLen_tup, fLen_lst, fTuple_lst, startD, isTy, List.map_cons, List.map_nil, List.length_cons, List.length_nil, List.cons_append, List.nil_append, List.replicate, Nat.reduceAdd, Nat.reduceSub, List.set_cons_zero, List.set_cons_succ, reduceIte, eq_self, Bool.false_eq_true, Bool.not_true, Bool.not_false, Option.bind_some, Bool.xor_false, Bool.xor_true, decide_true, decide_false, h4]
              rfl
          | _ => simp only [Out.bind_ok, mBind_app, mRet_app, eVar_0, eVar_1, eVar_2, eVar_3, eVar_4, eVar_5, eVar_6, eVar_7, eVar_8, eVar_9, eVar_10, eK_app, eOp_app, asB_bl, eTest_app, tru_bl, eTru_app, eChain_app, bNot_app, bAnd_app, bOr_app, eNot_app, eAnd_app, eOr_app, eIf_app, eUn_app, lNil_app, lCons_app, eTup_app, eLst_app, eLstM_app, eCall_app, eSlice_app, asI_int, eMeth_app, sNext_app, sNever_app, sBrk_app, sCont_app, sSeq_app, sSet_app, sExpr_app, sRet_app, sRetN_app, sIf_app, sAsg_app, eRg1_app, eIsI_app, opAdd_int, opSub_int, opCmpI_int, opLt_int, opEq_int, tgName_app, tgNil_app, tgCons_app, tgTup_app, clr_nil', clr_cons', ofO_some, opIx_tup0, opIx_tup1, fLen_tup, fLen_lst, fTuple_lst, startD, isTy, List.map_cons, List.map_nil, List.length_cons, List.length_nil, List.cons_append, List.nil_append, List.replicate, Nat.reduceAdd, Nat.reduceSub, List.set_cons_zero, List.set_cons_succ, reduceIte, eq_self, Bool.false_eq_true, Bool.not_true, Bool.not_false, Option.bind_some, Bool.xor_false, Bool.xor_true, decide_true, decide_false, ty_tupB]; rfl
  | _ => simp only [Out.bind_ok, mBind_app, mRet_app, eVar_0, eVar_1, eVar_2, eVar_3, eVar_4, eVar_5, eVar_6, eVar_7, eVar_8, eVar_9, eVar_10, eK_app, eOp_app, asB_bl, eTest_app, tru_bl, eTru_app, eChain_app, bNot_app, bAnd_app, bOr_app, eNot_app, eAnd_app, eOr_app, eIf_app, eUn_app, lNil_app, lCons_app, eTup_app, eLst_app, eLstM_app, eCall_app, eSlice_app, asI_int, eMeth_app, sNext_app, sNever_app, sBrk_app, sCont_app, sSeq_app, sSet_app, sExpr_app, sRet_app, sRetN_app, sIf_app, sAsg_app, eRg1_app, eIsI_app, opAdd_int, opSub_int, opCmpI_int, opLt_int, opEq_int, tgName_app, tgNil_app, tgCons_app, tgTup_app, clr_nil', clr_cons', ofO_some, opIx_tup0, opIx_tup1, fLen_tup, fLen_lst, fTuple_lst, startD, isTy, List.map_cons, List.map_nil, List.length_cons, List.length_nil, List.cons_append, List.nil_append, List.replicate, Nat.reduceAdd, Nat.reduceSub, List.set_cons_zero, List.set_cons_succ, reduceIte, eq_self, Bool.false_eq_true, Bool.not_true, Bool.not_false, Option.bind_some, Bool.xor_false, Bool.xor_true, decide_true, decide_false, m_is_web, ty_tupB]; rfl
end K01
end
section
namespace K01
open PySem PySem.Spec PyProof.Rows L2 DL
/-! ### what is no web, near one -/
def bents0 (n : Nat) (us : List PyData) : List PyData := [.none, .int n, .tuple [], .tuple [.int n], .list [.int n, .tuple us], .tuple [.int n, .list us], .tuple [.int n, .tuple us, .int 0], .tuple [.int 0, .tuple []], .tuple [.int 13, .tuple []], .tuple [.bool true, .tuple []]]
def bents1 (n : Nat) (us : List PyData) : List PyData := [.tuple [.int n, .tuple (us ++ [.tuple [.int ((n : Int) - 1), .int n]])], .tuple [.int n, .tuple (us ++ [.tuple [.int 0, .int 0]])], .tuple [.int n, .tuple [.tuple [.int 1, .int 0]]], .tuple [.int (-1), .tuple us]]
def bents2 (n : Nat) (us : List PyData) : List PyData := [.tuple [.int n, .tuple (us ++ [.none])], .tuple [.int n, .tuple (us ++ [.list [.int 0, .int 1]])], .tuple [.str "2", .tuple []], .tuple [.int n, .tuple [.tuple [.int 0, .int 1, .int 2]]], .dict [], .str "1 -"]
def bents3 (n : Nat) (us : List PyData) : List PyData := [.tuple [.int n, .tuple [.tuple [.bool false, .int 1]]], .tuple [.int n, .tuple [.tuple [.int 0, .bool true]]], .tuple [.int n, .tuple [.tuple [.int 0]]], .tuple [.int n, .tuple (us ++ [.tuple [.int (-1), .int 0]])]]
def bents4 (n : Nat) (us : List PyData) : List PyData := [.tuple [.int n, .tuple us.reverse], .tuple [.int n, .tuple (us.take 1 ++ us)], .tuple [.int n, .tuple (us.drop 1 ++ us.take 1)]]
def bents (n : Nat) (us : List PyData) : List PyData := bents0 n us ++ bents1 n us ++ bents2 n us ++ bents3 n us ++ (if 1 < us.length then bents4 n us else [])
theorem web_no {n : Int} {us : List PyData} (h : us.all (tieB n) = false) : isWebB (.tuple [.int n, .tuple us]) = false := by
  show (belowB 13 (.int n) && !decide (n = 0) && (us.all (tieB n) && risB us)) = false
  rw [h, Bool.false_and, Bool.and_false]
theorem web_nr {n : Int} {us : List PyData} (h : risB us = false) : isWebB (.tuple [.int n, .tuple us]) = false := by
  show (belowB 13 (.int n) && !decide (n = 0) && (us.all (tieB n) && risB us)) = false
  rw [h, Bool.and_false, Bool.and_false]
theorem all_end {n : Int} {us : List PyData} {x : PyData} (h : tieB n x = false) : (us ++ [x]).all (tieB n) = false := by
  rw [List.all_append]
  simp [h]
theorem tie_lt {p q : Nat × Nat} : ltB (tieD p) (tieD q) = true ↔ tlt p q := by
  show (decide ((p.1 : Int) < q.1) || (decide ((p.1 : Int) = q.1) && decide ((p.2 : Int) < q.2))) = true ↔ _
  unfold tlt
  simp only [Bool.or_eq_true, Bool.and_eq_true, decide_eq_true_eq]
  omega
theorem ris_two {x y : PyData} {r : List PyData} (h : ltB x y = false) : risB (x :: y :: r) = false := by
  unfold risB
  simp [h]
/-- a fall somewhere -/
theorem ris_mid {x y : PyData} (h : ltB x y = false) : ∀ (l r : List PyData), risB (l ++ x :: y :: r) = false
  | [], r => ris_two h
  | [z], r => by
    unfold risB
    simp [h]
  | z :: w :: l, r => by
    have ih := ris_mid h (w :: l) r
    unfold risB at ih ⊢
    simp only [List.cons_append, List.drop_succ_cons, List.drop_zero, List.zip_cons_cons, List.all_cons] at ih ⊢
    rw [ih, Bool.and_false]
theorem ltB_not {p q : Nat × Nat} (h : ¬ tlt p q) : ltB (tieD p) (tieD q) = false := by
  cases e : ltB (tieD p) (tieD q) with
  | false => rfl
  | true => exact absurd (tie_lt.mp e) h
theorem tlt_asym {p q : Nat × Nat} (h : tlt p q) : ¬ tlt q p := by unfold tlt at *; omega
theorem short_ties (ts : List (Nat × Nat)) : ∀ t ∈ ts.map tieD, shortT t := fun t ht => by
  obtain ⟨p, _, rfl⟩ := List.mem_map.mp ht
  show 2 ≤ 100000
  omega
theorem bents_no {n : Nat} {ts : List (Nat × Nat)} (w : GW n ts) : ∀ x ∈ bents n (ts.map tieD), isWebB x = false ∧ shortW x := by
  have hl := w.len
  have hs := short_ties ts
  have h2 : ∀ (x : PyData), shortT x → shortW (.tuple [.int n, .tuple (ts.map tieD ++ [x])]) := fun x hx => by
    refine ⟨by rw [List.length_append, List.length_map]; simp; omega, fun t ht => ?_⟩
    rcases List.mem_append.mp ht with h | h
    · exact hs t h
    · rw [show t = x by simpa using h]; exact hx
  have one : ∀ (x : PyData), shortT x → shortW (.tuple [.int n, .tuple [x]]) := fun x hx => ⟨by simp, fun t ht => by rw [show t = x by simpa using ht]; exact hx⟩
  intro x hx
  unfold bents at hx
  rcases List.mem_append.mp hx with hx | hx
  · rcases List.mem_append.mp hx with hx | hx
    · rcases List.mem_append.mp hx with hx | hx
      · rcases List.mem_append.mp hx with hx | hx
        · unfold bents0 at hx
          simp only [List.mem_cons, List.not_mem_nil, or_false] at hx
          rcases hx with rfl | rfl | rfl | rfl | rfl | rfl | rfl | rfl | rfl | rfl
          · exact ⟨rfl, trivial⟩
          · exact ⟨rfl, trivial⟩
          · exact ⟨rfl, trivial⟩
          · exact ⟨rfl, trivial⟩
          · exact ⟨rfl, trivial⟩
          · exact ⟨rfl, trivial⟩
          · exact ⟨rfl, trivial⟩
          · exact ⟨rfl, by simp, by simp⟩
          · exact ⟨rfl, by simp, by simp⟩
          · exact ⟨rfl, by simp, by simp⟩
        · unfold bents1 at hx
          simp only [List.mem_cons, List.not_mem_nil, or_false] at hx
          rcases hx with rfl | rfl | rfl | rfl
          · refine ⟨web_no (all_end ?_), h2 _ (by show 2 ≤ 100000; omega)⟩
            show (belowB n (.int ((n : Int) - 1)) && belowB n (.int n) && decide ((n : Int) - 1 < n)) = false
            have : belowB (n : Int) (.int n) = false := by
              show (decide (0 ≤ (n : Int)) && decide ((n : Int) < n)) = false
              simp
            rw [this, Bool.and_false, Bool.false_and]
          · exact ⟨web_no (all_end (by show (belowB n (.int 0) && belowB n (.int 0) && decide ((0 : Int) < 0)) = false; simp)), h2 _ (by show 2 ≤ 100000; omega)⟩
          · refine ⟨web_no ?_, one _ (by show 2 ≤ 100000; omega)⟩
            show (belowB n (.int 1) && belowB n (.int 0) && decide ((1 : Int) < 0) && true) = false
            simp
          · exact ⟨rfl, by rw [List.length_map]; omega, hs⟩
      · unfold bents2 at hx
        simp only [List.mem_cons, List.not_mem_nil, or_false] at hx
        rcases hx with rfl | rfl | rfl | rfl | rfl | rfl
        · exact ⟨web_no (all_end rfl), h2 _ trivial⟩
        · exact ⟨web_no (all_end rfl), h2 _ trivial⟩
        · exact ⟨rfl, by simp, by simp⟩
        · exact ⟨web_no rfl, one _ (by show 3 ≤ 100000; omega)⟩
        · exact ⟨rfl, trivial⟩
        · exact ⟨rfl, trivial⟩
    · unfold bents3 at hx
      simp only [List.mem_cons, List.not_mem_nil, or_false] at hx
      rcases hx with rfl | rfl | rfl | rfl
      · exact ⟨web_no rfl, one _ (by show 2 ≤ 100000; omega)⟩
      · exact ⟨web_no rfl, one _ (by show 2 ≤ 100000; omega)⟩
      · exact ⟨web_no rfl, one _ (by show 1 ≤ 100000; omega)⟩
      · refine ⟨web_no (all_end ?_), h2 _ (by show 2 ≤ 100000; omega)⟩
        show (belowB n (.int (-1)) && belowB n (.int 0) && decide ((-1 : Int) < 0)) = false
        have : belowB (n : Int) (.int (-1)) = false := by
          show (decide (0 ≤ (-1 : Int)) && decide ((-1 : Int) < n)) = false
          simp
        rw [this]; rfl
  · rw [List.length_map] at hx
    split at hx
    · rename_i hlen
      match ts, w.ris, hlen, hl, hs with
      | p :: q :: r, ris, _, hl, hs =>
        have hpq : tlt p q := (List.pairwise_cons.mp ris).1 q List.mem_cons_self
        unfold bents4 at hx
        simp only [List.mem_cons, List.not_mem_nil, or_false] at hx
        rcases hx with rfl | rfl | rfl
        · refine ⟨web_nr ?_, by simp at hl ⊢; omega, fun t ht => hs t (List.mem_reverse.mp ht)⟩
          rw [List.map_cons, List.map_cons, List.reverse_cons, List.reverse_cons, List.append_assoc]
          exact ris_mid (ltB_not (tlt_asym hpq)) _ []
        · refine ⟨web_nr (ris_two (ltB_not fun h => tlt_asym h h)), by simp at hl ⊢; omega, fun t ht => ?_⟩
          rcases List.mem_append.mp ht with h | h
          · exact hs t (List.mem_of_mem_take h)
          · exact hs t h
        · refine ⟨web_nr ?_, by simp at hl ⊢; omega, fun t ht => ?_⟩
          · show risB (tieD q :: r.map tieD ++ [tieD p]) = false
            -- the last of these is greater than the first one
            obtain ⟨l, z, e⟩ : ∃ l z, q :: r = l ++ [z] := ⟨(q :: r).dropLast, (q :: r).getLast (by simp), (List.dropLast_concat_getLast (by simp)).symm⟩
            have hz : z ∈ q :: r := by rw [e]; simp
            have hpz : tlt p z := (List.pairwise_cons.mp ris).1 z hz
            have e2 : tieD q :: r.map tieD ++ [tieD p] = l.map tieD ++ tieD z :: tieD p :: [] := by
              have : tieD q :: r.map tieD = (q :: r).map tieD := rfl
              rw [this, e]; simp
            rw [e2]
            exact ris_mid (ltB_not (tlt_asym hpz)) _ []
          · rcases List.mem_append.mp ht with h | h
            · exact hs t (List.mem_of_mem_drop h)
            · exact hs t (List.mem_of_mem_take h)
      | [], _, h, _, _ => simp at h
      | [_], _, h, _, _ => simp at h
    · cases hx
end K01
end
section
set_option maxHeartbeats 1000000
namespace K01
open PySem PySem.Spec PyProof.Rows L2 DL
theorem addL {xs ys : List PyData} (h : xs.length + ys.length ≤ 10000) (S : Sto) : opAdd (.lst xs) (.lst ys) S = .ok (.lst (xs ++ ys)) S := by
  show (match asL S (.lst xs), asL S (.lst ys) with
    | some xs, some ys => (match pdL (xs ++ ys) with
      | some zs => if zs.length ≤ sizeLine then Out.ok (D.lst zs) S else .stuck
      | none => .stuck)
    | _, _ => .stuck) = _
  unfold asL
  dsimp only
  rw [← List.map_append, pdL_map]
  dsimp only
  rw [if_pos (by rw [List.length_append, sizeLine_eq]; omega)]
theorem eLstN_ok {ml : DM (List D)} {xs : List PyData} {σ : Sl} {S S' : Sto} (h : ml σ S = .ok (xs.map .pd) S') (hl : xs.length ≤ 1000) : eLst ml σ S = .ok (.lst xs) S' := by
  rw [eLst_app, h]
  exact mkLstN rfl hl σ S'
theorem eRevT_app {m : DM D} {xs : List PyData} {σ : Sl} {S S' : Sto} (h : m σ S = .ok (.tup xs) S') : eRevT m σ S = .ok (.tup xs.reverse) S' := by
  unfold eRevT
  rw [mBind_app, h]
  rfl
theorem uNeg_int (i : Int) (S : Sto) : uNeg (.pd (.int i)) S = .ok (.int (-i)) S := rfl
abbrev bS (n : Nat) (us : List PyData) (L : Option D) : Sl := [some (.ref 0), some (.pd (.tuple [.int n, .tuple us])), some (.int n), some (.tup us), L]
theorem bent_ok {ob : Ob} (hp : IsPool ob) {n : Nat} {us : List PyData} (hl : us.length ≤ 1000) : ∃ (x : PyData) (ob' : Ob), x ∈ bents n us ∧ IsPool ob' ∧ f__law_bent_web [.ref 0, .pd (.tuple [.int n, .tuple us])] [ob] = .ok (.pd x) [ob'] := by
  have hA : ∀ (y : PyData) (S : Sto), opAdd (.tup us) (.tup [y]) S = .ok (.tup (us ++ [y])) S := fun y S => opAdd_tup (by simp; omega) S
  have e1 : ∀ S, eLst (lCons (eK .non) (lCons (eVar 2) (lCons (eTup lNil) (lCons (eTup (lCons (eVar 2) lNil)) (lCons (eLst (lCons (eVar 2) (lCons (eVar 3) lNil))) (lCons (eTup (lCons (eVar 2) (lCons (eCall fList (lCons (eVar 3) lNil)) lNil))) (lCons (eTup (lCons (eVar 2) (lCons (eVar 3) (lCons (eK (.int 0)) lNil)))) (lCons (eTup (lCons (eK (.int 0)) (lCons (eTup lNil) lNil))) (lCons (eTup (lCons (eK (.int 13)) (lCons (eTup lNil) lNil))) (lCons (eTup (lCons (eK (.bl true)) (lCons (eTup lNil) lNil))) lNil)))))))))) (bS n us none) S = .ok (.lst (bents0 n us)) S := fun S => by
    refine eLstN_ok (xs := bents0 n us) ?_ (by simp [bents0])
    simp only [Out.bind_ok, mBind_app, mRet_app, eVar_0, eVar_1, eVar_2, eVar_3, eVar_4, eVar_5, eVar_6, eVar_7, eVar_8, eVar_9, eVar_10, eK_app, eOp_app, asB_bl, eTest_app, tru_bl, eTru_app, eChain_app, bNot_app, bAnd_app, bOr_app, eNot_app, eAnd_app, eOr_app, eIf_app, eUn_app, lNil_app, lCons_app, eTup_app, eLst_app, eLstM_app, eCall_app, eSlice_app, asI_int, eMeth_app, sNext_app, sNever_app, sBrk_app, sCont_app, sSeq_app, sSet_app, sExpr_app, sRet_app, sRetN_app, sIf_app, sAsg_app, eRg1_app, eIsI_app, opAdd_int, opSub_int, opCmpI_int, opLt_int, opEq_int, tgName_app, tgNil_app, tgCons_app, tgTup_app, clr_nil', clr_cons', ofO_some, opIx_tup0, opIx_tup1, fLen_tup, fLen_lst, fTuple_lst, startD, isTy, List.map_cons, List.map_nil, List.length_cons, List.length_nil, List.cons_append, List.nil_append, List.replicate, Nat.reduceAdd, Nat.reduceSub, List.set_cons_zero, List.set_cons_succ, reduceIte, eq_self, Bool.false_eq_true, Bool.not_true, Bool.not_false, Option.bind_some, Bool.xor_false, Bool.xor_true, decide_true, decide_false, mkTup0, mkTup1, mkTup2, mkTup3, mkLst2, fList_tup]
    rfl
  have e2 : ∀ L S, eLst (lCons (eTup (lCons (eVar 2) (lCons (eOp opAdd (eVar 3) (eTup (lCons (eTup (lCons (eOp opSub (eVar 2) (eK (.int 1))) (lCons (eVar 2) lNil))) lNil))) lNil))) (lCons (eTup (lCons (eVar 2) (lCons (eOp opAdd (eVar 3) (eTup (lCons (eTup (lCons (eK (.int 0)) (lCons (eK (.int 0)) lNil))) lNil))) lNil))) (lCons (eTup (lCons (eVar 2) (lCons (eTup (lCons (eTup (lCons (eK (.int 1)) (lCons (eK (.int 0)) lNil))) lNil)) lNil))) (lCons (eTup (lCons (eUn uNeg (eK (.int 1))) (lCons (eVar 3) lNil))) lNil)))) (bS n us (some L)) S = .ok (.lst (bents1 n us)) S := fun L S => by
    refine eLstN_ok (xs := bents1 n us) ?_ (by simp [bents1])
    simp only [Out.bind_ok, mBind_app, mRet_app, eVar_0, eVar_1, eVar_2, eVar_3, eVar_4, eVar_5, eVar_6, eVar_7, eVar_8, eVar_9, eVar_10, eK_app, eOp_app, asB_bl, eTest_app, tru_bl, eTru_app, eChain_app, bNot_app, bAnd_app, bOr_app, eNot_app, eAnd_app, eOr_app, eIf_app, eUn_app, lNil_app, lCons_app, eTup_app, eLst_app, eLstM_app, eCall_app, eSlice_app, asI_int, eMeth_app, sNext_app, sNever_app, sBrk_app, sCont_app, sSeq_app, sSet_app, sExpr_app, sRet_app, sRetN_app, sIf_app, sAsg_app, eRg1_app, eIsI_app, opAdd_int, opSub_int, opCmpI_int, opLt_int, opEq_int, tgName_app, tgNil_app, tgCons_app, tgTup_app, clr_nil', clr_cons', ofO_some, opIx_tup0, opIx_tup1, fLen_tup, fLen_lst, fTuple_lst, startD, isTy, List.map_cons, List.map_nil, List.length_cons, List.length_nil, List.cons_append, List.nil_append, List.replicate, Nat.reduceAdd, Nat.reduceSub, List.set_cons_zero, List.set_cons_succ, reduceIte, eq_self, Bool.false_eq_true, Bool.not_true, Bool.not_false, Option.bind_some, Bool.xor_false, Bool.xor_true, decide_true, decide_false, mkTup0, mkTup1, mkTup2, mkTup3, mkLst2, hA, uNeg_int]
    rfl
  have e3 : ∀ L S, eLst (lCons (eTup (lCons (eVar 2) (lCons (eOp opAdd (eVar 3) (eTup (lCons (eK .non) lNil))) lNil))) (lCons (eTup (lCons (eVar 2) (lCons (eOp opAdd (eVar 3) (eTup (lCons (eLst (lCons (eK (.int 0)) (lCons (eK (.int 1)) lNil))) lNil))) lNil))) (lCons (eTup (lCons (eK (.str "2")) (lCons (eTup lNil) lNil))) (lCons (eTup (lCons (eVar 2) (lCons (eTup (lCons (eTup (lCons (eK (.int 0)) (lCons (eK (.int 1)) (lCons (eK (.int 2)) lNil)))) lNil)) lNil))) (lCons (eK (.pd (.dict []))) (lCons (eK (.str "1 -")) lNil)))))) (bS n us (some L)) S = .ok (.lst (bents2 n us)) S := fun L S => by
    refine eLstN_ok (xs := bents2 n us) ?_ (by simp [bents2])
    simp only [Out.bind_ok, mBind_app, mRet_app, eVar_0, eVar_1, eVar_2, eVar_3, eVar_4, eVar_5, eVar_6, eVar_7, eVar_8, eVar_9, eVar_10, eK_app, eOp_app, asB_bl, eTest_app, tru_bl, eTru_app, eChain_app, bNot_app, bAnd_app, bOr_app, eNot_app, eAnd_app, eOr_app, eIf_app, eUn_app, lNil_app, lCons_app, eTup_app, eLst_app, eLstM_app, eCall_app, eSlice_app, asI_int, eMeth_app, sNext_app, sNever_app, sBrk_app, sCont_app, sSeq_app, sSet_app, sExpr_app, sRet_app, sRetN_app, sIf_app, sAsg_app, eRg1_app, eIsI_app, opAdd_int, opSub_int, opCmpI_int, opLt_int, opEq_int, tgName_app, tgNil_app, tgCons_app, tgTup_app, clr_nil', clr_cons', ofO_some, opIx_tup0, opIx_tup1, fLen_tup, fLen_lst, fTuple_lst, startD, isTy, List.map_cons, List.map_nil, List.length_cons, List.length_nil, List.cons_append, List.nil_append, List.replicate, Nat.reduceAdd, Nat.reduceSub, List.set_cons_zero, List.set_cons_succ, reduceIte, eq_self, Bool.false_eq_true, Bool.not_true, Bool.not_false, Option.bind_some, Bool.xor_false, Bool.xor_true, decide_true, decide_false, mkTup0, mkTup1, mkTup2, mkTup3, mkLst2, hA, uNeg_int]
    rfl
  have e4 : ∀ L S, eLst (lCons (eTup (lCons (eVar 2) (lCons (eTup (lCons (eTup (lCons (eK (.bl false)) (lCons (eK (.int 1)) lNil))) lNil)) lNil))) (lCons (eTup (lCons (eVar 2) (lCons (eTup (lCons (eTup (lCons (eK (.int 0)) (lCons (eK (.bl true)) lNil))) lNil)) lNil))) (lCons (eTup (lCons (eVar 2) (lCons (eTup (lCons (eTup (lCons (eK (.int 0)) lNil)) lNil)) lNil))) (lCons (eTup (lCons (eVar 2) (lCons (eOp opAdd (eVar 3) (eTup (lCons (eTup (lCons (eUn uNeg (eK (.int 1))) (lCons (eK (.int 0)) lNil))) lNil))) lNil))) lNil)))) (bS n us (some L)) S = .ok (.lst (bents3 n us)) S := fun L S => by
    refine eLstN_ok (xs := bents3 n us) ?_ (by simp [bents3])
    simp only [Out.bind_ok, mBind_app, mRet_app, eVar_0, eVar_1, eVar_2, eVar_3, eVar_4, eVar_5, eVar_6, eVar_7, eVar_8, eVar_9, eVar_10, eK_app, eOp_app, asB_bl, eTest_app, tru_bl, eTru_app, eChain_app, bNot_app, bAnd_app, bOr_app, eNot_app, eAnd_app, eOr_app, eIf_app, eUn_app, lNil_app, lCons_app, eTup_app, eLst_app, eLstM_app, eCall_app, eSlice_app, asI_int, eMeth_app, sNext_app, sNever_app, sBrk_app, sCont_app, sSeq_app, sSet_app, sExpr_app, sRet_app, sRetN_app, sIf_app, sAsg_app, eRg1_app, eIsI_app, opAdd_int, opSub_int, opCmpI_int, opLt_int, opEq_int, tgName_app, tgNil_app, tgCons_app, tgTup_app, clr_nil', clr_cons', ofO_some, opIx_tup0, opIx_tup1, fLen_tup, fLen_lst, fTuple_lst, startD, isTy, List.map_cons, List.map_nil, List.length_cons, List.length_nil, List.cons_append, List.nil_append, List.replicate, Nat.reduceAdd, Nat.reduceSub, List.set_cons_zero, List.set_cons_succ, reduceIte, eq_self, Bool.false_eq_true, Bool.not_true, Bool.not_false, Option.bind_some, Bool.xor_false, Bool.xor_true, decide_true, decide_false, mkTup0, mkTup1, mkTup2, mkTup3, mkLst2, hA, uNeg_int]
    rfl
  have l0 : (bents0 n us).length = 10 := rfl
  have l1 : (bents1 n us).length = 4 := rfl
  have l2 : (bents2 n us).length = 6 := rfl
  have l3 : (bents3 n us).length = 4 := rfl
  have l4 : (bents4 n us).length = 3 := rfl
  have e5 : ∀ L S, 1 < us.length → eLst (lCons (eTup (lCons (eVar 2) (lCons (eRevT (eVar 3)) lNil))) (lCons (eTup (lCons (eVar 2) (lCons (eOp opAdd (eSlice (eVar 3) (mRet none) (mBind (eK (.int 1)) asI)) (eVar 3)) lNil))) (lCons (eTup (lCons (eVar 2) (lCons (eOp opAdd (eSlice (eVar 3) (mBind (eK (.int 1)) asI) (mRet none)) (eSlice (eVar 3) (mRet none) (mBind (eK (.int 1)) asI))) lNil))) lNil))) (bS n us (some L)) S = .ok (.lst (bents4 n us)) S := fun L S _ => by
    refine eLstN_ok (xs := bents4 n us) ?_ (by simp [bents4])
    have s1 : ∀ S, slD S (.tup us) none (some 1) = .ok (.tup (us.take 1)) S := fun S => slD_take us 1 S
    have s2 : ∀ S, slD S (.tup us) (some 1) none = .ok (.tup (us.drop 1)) S := fun S => slD_drop us 1 S
    have a1 : ∀ S, opAdd (.tup (us.take 1)) (.tup us) S = .ok (.tup (us.take 1 ++ us)) S := fun S => opAdd_tup (by rw [List.length_take]; omega) S
    have a2 : ∀ S, opAdd (.tup (us.drop 1)) (.tup (us.take 1)) S = .ok (.tup (us.drop 1 ++ us.take 1)) S := fun S => opAdd_tup (by rw [List.length_take, List.length_drop]; omega) S
    have r1 : ∀ S, eRevT (eVar 3) (bS n us (some L)) S = .ok (.tup us.reverse) S := fun S => eRevT_app rfl
    simp only [Out.bind_ok, mBind_app, mRet_app, eVar_0, eVar_1, eVar_2, eVar_3, eVar_4, eVar_5, eVar_6, eVar_7, eVar_8, eVar_9, eVar_10, eK_app, eOp_app, asB_bl, eTest_app, tru_bl, eTru_app, eChain_app, bNot_app, bAnd_app, bOr_app, eNot_app, eAnd_app, eOr_app, eIf_app, eUn_app, lNil_app, lCons_app, eTup_app, eLst_app, eLstM_app, eCall_app, eSlice_app, asI_int, eMeth_app, sNext_app, sNever_app, sBrk_app, sCont_app, sSeq_app, sSet_app, sExpr_app, sRet_app, sRetN_app, sIf_app, sAsg_app, eRg1_app, eIsI_app, opAdd_int, opSub_int, opCmpI_int, opLt_int, opEq_int, tgName_app, tgNil_app, tgCons_app, tgTup_app, clr_nil', clr_cons', ofO_some, opIx_tup0, opIx_tup1, fLen_tup, fLen_lst, fTuple_lst, startD, isTy, List.map_cons, List.map_nil, List.length_cons, List.length_nil, List.cons_append, List.nil_append, List.replicate, Nat.reduceAdd, Nat.reduceSub, List.set_cons_zero, List.set_cons_succ, reduceIte, eq_self, Bool.false_eq_true, Bool.not_true, Bool.not_false, Option.bind_some, Bool.xor_false, Bool.xor_true, decide_true, decide_false, mkTup2, r1, s1, s2, a1, a2]
    rfl
  obtain ⟨L, hL, hle, e6⟩ : ∃ L : List PyData, L = bents n us ∧ 1 ≤ L.length ∧ L.length ≤ 1000 ∧ ∀ S, sIf (eTest (eOp (opCmpI fun i j => decide (j < i)) (eCall fLen (lCons (eVar 3) lNil)) (eK (.int 1)))) (sSet 4 (eOp opAdd (eVar 4) (eLst (lCons (eTup (lCons (eVar 2) (lCons (eRevT (eVar 3)) lNil))) (lCons (eTup (lCons (eVar 2) (lCons (eOp opAdd (eSlice (eVar 3) (mRet none) (mBind (eK (.int 1)) asI)) (eVar 3)) lNil))) (lCons (eTup (lCons (eVar 2) (lCons (eOp opAdd (eSlice (eVar 3) (mBind (eK (.int 1)) asI) (mRet none)) (eSlice (eVar 3) (mRet none) (mBind (eK (.int 1)) asI))) lNil))) lNil)))))) sNext (bS n us (some (.lst (bents0 n us ++ bents1 n us ++ bents2 n us ++ bents3 n us)))) S = .ok (.next (bS n us (some (.lst L)))) S := by
    refine ⟨_, rfl, ?_, ?_, fun S => ?_⟩
    · unfold bents; rw [List.length_append, List.length_append, List.length_append, List.length_append, l0]; omega
    · unfold bents
      split <;> simp only [List.length_append, l0, l1, l2, l3, l4, List.length_nil] <;> omega
    · have hc : eTest (eOp (opCmpI fun i j => decide (j < i)) (eCall fLen (lCons (eVar 3) lNil)) (eK (.int 1))) (bS n us (some (.lst (bents0 n us ++ bents1 n us ++ bents2 n us ++ bents3 n us)))) S = .ok (decide (1 < us.length)) S := by
        simp only [Out.bind_ok, mBind_app, mRet_app, eVar_0, eVar_1, eVar_2, eVar_3, eVar_4, eVar_5, eVar_6, eVar_7, eVar_8, eVar_9, eVar_10, eK_app, eOp_app, asB_bl, eTest_app, tru_bl, eTru_app, eChain_app, bNot_app, bAnd_app, bOr_app, eNot_app, eAnd_app, eOr_app, eIf_app, eUn_app, lNil_app, lCons_app, eTup_app, eLst_app, eLstM_app, eCall_app, eSlice_app, asI_int, eMeth_app, sNext_app, sNever_app, sBrk_app, sCont_app, sSeq_app, sSet_app, sExpr_app, sRet_app, sRetN_app, sIf_app, sAsg_app, eRg1_app, eIsI_app, opAdd_int, opSub_int, opCmpI_int, opLt_int, opEq_int, tgName_app, tgNil_app, tgCons_app, tgTup_app, clr_nil', clr_cons', ofO_some, opIx_tup0, opIx_tup1, fLen_tup, fLen_lst, fTuple_lst, startD, isTy, List.map_cons, List.map_nil, List.length_cons, List.length_nil, List.cons_append, List.nil_append, List.replicate, Nat.reduceAdd, Nat.reduceSub, List.set_cons_zero, List.set_cons_succ, reduceIte, eq_self, Bool.false_eq_true, Bool.not_true, Bool.not_false, Option.bind_some, Bool.xor_false, Bool.xor_true, decide_true, decide_false]
        rw [show decide ((1 : Int) < (us.length : Nat)) = decide (1 < us.length) from decide_eq_decide.mpr (by omega)]
      by_cases h : 1 < us.length
      · rw [decide_eq_true h] at hc
        refine (sIf_t hc).trans ((sSet_ok (eOp_ok rfl (e5 _ _ h) (addL (by simp only [List.length_append, l0, l1, l2, l3, l4]; omega) _))).trans ?_)
        unfold bents
        rw [if_pos h]
        rfl
      · rw [decide_eq_false h] at hc
        refine (sIf_f hc).trans ?_
        unfold bents
        rw [if_neg h, List.append_nil]
        rfl
  obtain ⟨hle2, e6⟩ := e6
  subst hL
  obtain ⟨i, ob', hi, hp', et⟩ := take_call (many := (bents n us).length) hp hle (by omega) (S := [ob]) (p := 0) rfl (bS n us (some (.lst (bents n us))))
  refine ⟨(bents n us)[i], ob', List.getElem_mem hi, hp', ?_⟩
  refine runF_ref (r := []) ?_ hp'.pd
  show m__law_bent_web (some (.ref 0) :: some (.pd (.tuple [.int n, .tuple us])) :: [none, none, none]) [ob] = _
  unfold m__law_bent_web
  refine (sSeq_next (σ' := bS n us none) rfl).trans ?_
  refine (sSeq_next (sSet_ok (e1 _))).trans ?_
  refine (sSeq_next (sSet_ok (eOp_ok rfl (e2 _ _) (addL (by simp only [List.length_append, l0, l1, l2, l3, l4]; omega) _)))).trans ?_
  refine (sSeq_next (sSet_ok (eOp_ok rfl (e3 _ _) (addL (by simp only [List.length_append, l0, l1, l2, l3, l4]; omega) _)))).trans ?_
  refine (sSeq_next (sSet_ok (eOp_ok rfl (e4 _ _) (addL (by simp only [List.length_append, l0, l1, l2, l3, l4]; omega) _)))).trans ?_
  refine (sSeq_next (e6 _)).trans (sRet_ok ?_)
  refine eOp_ok (d := .lst (bents n us)) (e := .int i) rfl (call2_ok (d := .ref 0) (e := .int ((bents n us).length : Nat)) rfl (eCall1_ok (d := .lst (bents n us)) rfl (fLen_lst _)) et) ?_
  exact opIx_lstN (List.getElem?_eq_getElem hi)
/-! ### refusals -/
theorem eExIs_1 (a : Option D) (v : V) (b : Bool) (r : Sl) (S : Sto) : eExIs 1 v (some b) (a :: some (.raw v) :: r) S = .ok (.bl b) S := by
  unfold eExIs
  rw [if_pos (show (a :: some (.raw v) :: r)[1]? = some (some (.raw v)) from rfl)]
abbrev exWeb : Exn := ⟨.own "NoWeb", []⟩
abbrev exSeat (x : PyData) : Exn := ⟨.own "NoSeat", [("seat", .pd x)]⟩
def bools (l : List Bool) : List PyData := l.map .bool
theorem bools_l (l : List Bool) (hl : l.length ≤ 100) (σ : Sl) (S : Sto) : mkLst (l.map fun b => D.bl b) σ S = .ok (.lst (bools l)) S := mkLstN (by unfold bools; rw [List.map_map]; rfl) (by unfold bools; rw [List.length_map]; omega) σ S
/-- which of the eight it is -/
def flags (e : Exn) : Option (List Bool) := match isEx [("NoWeb", true), ("NoSeat", false)] e, isEx [("NoWeb", false), ("NoSeat", true)] e, isEx [("NoWeb", false), ("NoSeat", false)] e with
  | some a, some b, some _ => some [a, b]
  | _, _, _ => none
theorem eCntB_ok {mo : DM D} {l : List PyData} {σ : Sl} {S S' : Sto} (h : mo σ S = .ok (.lst l) S') (hp : PyData.plainAll l = true) (hd : PyData.hasDictAll l = false) : eCntB mo (lCons (eK (.bl true)) lNil) σ S = .ok (.int (l.countP fun y => PyData.eqv y (.bool true) : Nat)) S' := by
  unfold eCntB
  rw [mBind_app, h, Out.bind_ok]
  dsimp only
  rw [mBind_app, lCons_app, eK_app, Out.bind_ok, lNil_app, Out.bind_ok, Out.bind_ok]
  dsimp only
  rw [if_pos ⟨hp, hd⟩]
theorem eIdxL_ok {mo : DM D} {l : List PyData} {j : Nat} {σ : Sl} {S S' : Sto} (h : mo σ S = .ok (.lst l) S') (hp : okEq (.list l) = true) (hj : (l.findIdx? fun z => PyData.eqv z (.bool true)) = some j) : eIdxL mo (lCons (eK (.bl true)) lNil) σ S = .ok (.int (j : Nat)) S' := by
  unfold eIdxL
  rw [mBind_app, h, Out.bind_ok]
  dsimp only
  rw [mBind_app, lCons_app, eK_app, Out.bind_ok, lNil_app, Out.bind_ok, Out.bind_ok]
  dsimp only
  rw [if_pos ⟨hp, by decide⟩, hj]
theorem okEq_bools : okEq (.list (bools [true, false, false, false, false, false, false, false])) = true := by decide
theorem s1_web (v u : V) : q_law_caught_s1 exWeb v [some (.raw u), some (.raw v), none, none] [] = .ok (.ret (.lst [.str "web"])) [] := by
  unfold q_law_caught_s1
  have l0 : ∀ σ S, mkLst [D.bl true, D.bl false, D.bl false, D.bl false] σ S = .ok (.lst (bools [true, false, false, false])) S := fun σ S => bools_l [true, false, false, false] (by decide) σ S
  have l1 : ∀ σ S, mkLst [D.bl false, D.bl false, D.bl false, D.bl false] σ S = .ok (.lst (bools [false, false, false, false])) S := fun σ S => bools_l [false, false, false, false] (by decide) σ S
  have t : isEx [("NoWeb", true), ("NoSeat", false)] exWeb = some true := rfl
  have f1 : isEx [("NoWeb", false), ("NoSeat", true)] exWeb = some false := rfl
  have f2 : isEx [("NoWeb", false), ("NoSeat", false)] exWeb = some false := rfl
  simp only [t, f1, f2]
  let L := bools [true, false, false, false, false, false, false, false]
  refine (sSeq_next (σ' := [some (.raw u), some (.raw v), some (.lst (bools [true, false, false, false])), none]) (S' := []) ?_).trans ?_
  · simp only [Out.bind_ok, mBind_app, mRet_app, eVar_0, eVar_1, eVar_2, eVar_3, eVar_4, eVar_5, eVar_6, eVar_7, eVar_8, eVar_9, eVar_10, eK_app, eOp_app, asB_bl, eTest_app, tru_bl, eTru_app, eChain_app, bNot_app, bAnd_app, bOr_app, eNot_app, eAnd_app, eOr_app, eIf_app, eUn_app, lNil_app, lCons_app, eTup_app, eLst_app, eLstM_app, eCall_app, eSlice_app, asI_int, eMeth_app, sNext_app, sNever_app, sBrk_app, sCont_app, sSeq_app, sSet_app, sExpr_app, sRet_app, sRetN_app, sIf_app, sAsg_app, eRg1_app, eIsI_app, opAdd_int, opSub_int, opCmpI_int, opLt_int, opEq_int, tgName_app, tgNil_app, tgCons_app, tgTup_app, clr_nil', clr_cons', ofO_some, opIx_tup0, opIx_tup1, fLen_tup, fLen_lst, fTuple_lst, startD, isTy, List.map_cons, List.map_nil, List.length_cons, List.length_nil, List.cons_append, List.nil_append, List.replicate, Nat.reduceAdd, Nat.reduceSub, List.set_cons_zero, List.set_cons_succ, reduceIte, eq_self, Bool.false_eq_true, Bool.not_true, Bool.not_false, Option.bind_some, Bool.xor_false, Bool.xor_true, decide_true, decide_false, eExIs_1, l0]
  refine (sSeq_next (σ' := [some (.raw u), some (.raw v), some (.lst L), none]) (S' := []) ?_).trans ?_
  · simp only [Out.bind_ok, mBind_app, mRet_app, eVar_0, eVar_1, eVar_2, eVar_3, eVar_4, eVar_5, eVar_6, eVar_7, eVar_8, eVar_9, eVar_10, eK_app, eOp_app, asB_bl, eTest_app, tru_bl, eTru_app, eChain_app, bNot_app, bAnd_app, bOr_app, eNot_app, eAnd_app, eOr_app, eIf_app, eUn_app, lNil_app, lCons_app, eTup_app, eLst_app, eLstM_app, eCall_app, eSlice_app, asI_int, eMeth_app, sNext_app, sNever_app, sBrk_app, sCont_app, sSeq_app, sSet_app, sExpr_app, sRet_app, sRetN_app, sIf_app, sAsg_app, eRg1_app, eIsI_app, opAdd_int, opSub_int, opCmpI_int, opLt_int, opEq_int, tgName_app, tgNil_app, tgCons_app, tgTup_app, clr_nil', clr_cons', ofO_some, opIx_tup0, opIx_tup1, fLen_tup, fLen_lst, fTuple_lst, startD, isTy, List.map_cons, List.map_nil, List.length_cons, List.length_nil, List.cons_append, List.nil_append, List.replicate, Nat.reduceAdd, Nat.reduceSub, List.set_cons_zero, List.set_cons_succ, reduceIte, eq_self, Bool.false_eq_true, Bool.not_true, Bool.not_false, Option.bind_some, Bool.xor_false, Bool.xor_true, decide_true, decide_false, eExIs_1, l1]
    rw [addL (by decide)]
    rfl
  refine (sSeq_next (σ' := [some (.raw u), some (.raw v), some (.lst L), some (.lst (bools [false, false, false, false]))]) (S' := []) ?_).trans ?_
  · simp only [Out.bind_ok, mBind_app, mRet_app, eVar_0, eVar_1, eVar_2, eVar_3, eVar_4, eVar_5, eVar_6, eVar_7, eVar_8, eVar_9, eVar_10, eK_app, eOp_app, asB_bl, eTest_app, tru_bl, eTru_app, eChain_app, bNot_app, bAnd_app, bOr_app, eNot_app, eAnd_app, eOr_app, eIf_app, eUn_app, lNil_app, lCons_app, eTup_app, eLst_app, eLstM_app, eCall_app, eSlice_app, asI_int, eMeth_app, sNext_app, sNever_app, sBrk_app, sCont_app, sSeq_app, sSet_app, sExpr_app, sRet_app, sRetN_app, sIf_app, sAsg_app, eRg1_app, eIsI_app, opAdd_int, opSub_int, opCmpI_int, opLt_int, opEq_int, tgName_app, tgNil_app, tgCons_app, tgTup_app, clr_nil', clr_cons', ofO_some, opIx_tup0, opIx_tup1, fLen_tup, fLen_lst, fTuple_lst, startD, isTy, List.map_cons, List.map_nil, List.length_cons, List.length_nil, List.cons_append, List.nil_append, List.replicate, Nat.reduceAdd, Nat.reduceSub, List.set_cons_zero, List.set_cons_succ, reduceIte, eq_self, Bool.false_eq_true, Bool.not_true, Bool.not_false, Option.bind_some, Bool.xor_false, Bool.xor_true, decide_true, decide_false, eExIs_1, l1]
  have c1 : ∀ M S, eCntB (eVar 2) (lCons (eK (.bl true)) lNil) [some (.raw u), some (.raw v), some (.lst L), M] S = .ok (.int 1) S := fun M S => eCntB_ok (l := L) rfl (by decide) (by decide)
  have i1 : ∀ S, opIn false (.bl true) (.lst (bools [false, false, false, false])) S = .ok (.bl false) S := fun S => rfl
  have i2 : ∀ S, slD S (.lst L) none (some 6) = .ok (.lst (bools [true, false, false, false, false, false])) S := fun S => rfl
  have i3 : ∀ S, opIn false (.bl true) (.lst (bools [true, false, false, false, false, false])) S = .ok (.bl true) S := fun S => rfl
  have i4 : ∀ S, opEq true (.bl true) (.bl true) S = .ok (.bl false) S := fun S => opEq_ex true (by decide) (by decide) S
  refine (sSeq_next (σ' := [some (.raw u), some (.raw v), some (.lst L), some (.lst (bools [false, false, false, false]))]) (S' := []) ?_).trans ?_
  · simp only [Out.bind_ok, mBind_app, mRet_app, eVar_0, eVar_1, eVar_2, eVar_3, eVar_4, eVar_5, eVar_6, eVar_7, eVar_8, eVar_9, eVar_10, eK_app, eOp_app, asB_bl, eTest_app, tru_bl, eTru_app, eChain_app, bNot_app, bAnd_app, bOr_app, eNot_app, eAnd_app, eOr_app, eIf_app, eUn_app, lNil_app, lCons_app, eTup_app, eLst_app, eLstM_app, eCall_app, eSlice_app, asI_int, eMeth_app, sNext_app, sNever_app, sBrk_app, sCont_app, sSeq_app, sSet_app, sExpr_app, sRet_app, sRetN_app, sIf_app, sAsg_app, eRg1_app, eIsI_app, opAdd_int, opSub_int, opCmpI_int, opLt_int, opEq_int, tgName_app, tgNil_app, tgCons_app, tgTup_app, clr_nil', clr_cons', ofO_some, opIx_tup0, opIx_tup1, fLen_tup, fLen_lst, fTuple_lst, startD, isTy, List.map_cons, List.map_nil, List.length_cons, List.length_nil, List.cons_append, List.nil_append, List.replicate, Nat.reduceAdd, Nat.reduceSub, List.set_cons_zero, List.set_cons_succ, reduceIte, eq_self, Bool.false_eq_true, Bool.not_true, Bool.not_false, Option.bind_some, Bool.xor_false, Bool.xor_true, decide_true, decide_false, eExIs_1, c1, i1, i2, i3, i4]
  refine (sSeq_next (σ' := [some (.raw u), some (.raw v), some (.lst L), some (.lst (bools [false, false, false, false]))]) (S' := []) rfl).trans ?_
  refine (sSeq_next (σ' := [some (.raw u), some (.raw v), some (.lst L), some (.lst (bools [false, false, false, false]))]) (S' := []) rfl).trans ?_
  have x1 : ∀ M S, eIdxL (eVar 2) (lCons (eK (.bl true)) lNil) [some (.raw u), some (.raw v), some (.lst L), M] S = .ok (.int (0 : Nat)) S := fun M S => eIdxL_ok (l := L) rfl okEq_bools rfl
  refine sRet_ok (eLst1_ok (x := .str "web") (eOp_ok (d := .lst [.str "web", .str "term", .str "plan", .str "plans", .str "words", .str "goes"]) rfl (x1 _ _) rfl))
theorem s1_seat (v u : V) (x : PyData) (hx : ∀ S, fReprD [.pd x] S = .ok (.str x.shown) S) : q_law_caught_s1 (exSeat x) v [some (.raw u), some (.raw v), none, none] [] = .ok (.ret (.lst [.str "seat", .str x.shown])) [] := by
  unfold q_law_caught_s1
  have l1 : ∀ σ S, mkLst [D.bl false, D.bl false, D.bl false, D.bl false] σ S = .ok (.lst (bools [false, false, false, false])) S := fun σ S => bools_l [false, false, false, false] (by decide) σ S
  have l2 : ∀ σ S, mkLst [D.bl false, D.bl false, D.bl true, D.bl false] σ S = .ok (.lst (bools [false, false, true, false])) S := fun σ S => bools_l [false, false, true, false] (by decide) σ S
  have t : isEx [("NoWeb", true), ("NoSeat", false)] (exSeat x) = some false := rfl
  have f1 : isEx [("NoWeb", false), ("NoSeat", true)] (exSeat x) = some true := rfl
  have f2 : isEx [("NoWeb", false), ("NoSeat", false)] (exSeat x) = some false := rfl
  simp only [t, f1, f2]
  let L := bools [false, false, false, false, false, false, true, false]
  refine (sSeq_next (σ' := [some (.raw u), some (.raw v), some (.lst (bools [false, false, false, false])), none]) (S' := []) ?_).trans ?_
  · simp only [Out.bind_ok, mBind_app, mRet_app, eVar_0, eVar_1, eVar_2, eVar_3, eVar_4, eVar_5, eVar_6, eVar_7, eVar_8, eVar_9, eVar_10, eK_app, eOp_app, asB_bl, eTest_app, tru_bl, eTru_app, eChain_app, bNot_app, bAnd_app, bOr_app, eNot_app, eAnd_app, eOr_app, eIf_app, eUn_app, lNil_app, lCons_app, eTup_app, eLst_app, eLstM_app, eCall_app, eSlice_app, asI_int, eMeth_app, sNext_app, sNever_app, sBrk_app, sCont_app, sSeq_app, sSet_app, sExpr_app, sRet_app, sRetN_app, sIf_app, sAsg_app, eRg1_app, eIsI_app, opAdd_int, opSub_int, opCmpI_int, opLt_int, opEq_int, tgName_app, tgNil_app, tgCons_app, tgTup_app, clr_nil', clr_cons', ofO_some, opIx_tup0, opIx_tup1, fLen_tup, fLen_lst, fTuple_lst, startD, isTy, List.map_cons, List.map_nil, List.length_cons, List.length_nil, List.cons_append, List.nil_append, List.replicate, Nat.reduceAdd, Nat.reduceSub, List.set_cons_zero, List.set_cons_succ, reduceIte, eq_self, Bool.false_eq_true, Bool.not_true, Bool.not_false, Option.bind_some, Bool.xor_false, Bool.xor_true, decide_true, decide_false, eExIs_1, l1]
  refine (sSeq_next (σ' := [some (.raw u), some (.raw v), some (.lst L), none]) (S' := []) ?_).trans ?_
  · simp only [Out.bind_ok, mBind_app, mRet_app, eVar_0, eVar_1, eVar_2, eVar_3, eVar_4, eVar_5, eVar_6, eVar_7, eVar_8, eVar_9, eVar_10, eK_app, eOp_app, asB_bl, eTest_app, tru_bl, eTru_app, eChain_app, bNot_app, bAnd_app, bOr_app, eNot_app, eAnd_app, eOr_app, eIf_app, eUn_app, lNil_app, lCons_app, eTup_app, eLst_app, eLstM_app, eCall_app, eSlice_app, asI_int, eMeth_app, sNext_app, sNever_app, sBrk_app, sCont_app, sSeq_app, sSet_app, sExpr_app, sRet_app, sRetN_app, sIf_app, sAsg_app, eRg1_app, eIsI_app, opAdd_int, opSub_int, opCmpI_int, opLt_int, opEq_int, tgName_app, tgNil_app, tgCons_app, tgTup_app, clr_nil', clr_cons', ofO_some, opIx_tup0, opIx_tup1, fLen_tup, fLen_lst, fTuple_lst, startD, isTy, List.map_cons, List.map_nil, List.length_cons, List.length_nil, List.cons_append, List.nil_append, List.replicate, Nat.reduceAdd, Nat.reduceSub, List.set_cons_zero, List.set_cons_succ, reduceIte, eq_self, Bool.false_eq_true, Bool.not_true, Bool.not_false, Option.bind_some, Bool.xor_false, Bool.xor_true, decide_true, decide_false, eExIs_1, l2]
    rw [addL (by decide)]
    rfl
  refine (sSeq_next (σ' := [some (.raw u), some (.raw v), some (.lst L), some (.lst (bools [false, false, false, false]))]) (S' := []) ?_).trans ?_
  · simp only [Out.bind_ok, mBind_app, mRet_app, eVar_0, eVar_1, eVar_2, eVar_3, eVar_4, eVar_5, eVar_6, eVar_7, eVar_8, eVar_9, eVar_10, eK_app, eOp_app, asB_bl, eTest_app, tru_bl, eTru_app, eChain_app, bNot_app, bAnd_app, bOr_app, eNot_app, eAnd_app, eOr_app, eIf_app, eUn_app, lNil_app, lCons_app, eTup_app, eLst_app, eLstM_app, eCall_app, eSlice_app, asI_int, eMeth_app, sNext_app, sNever_app, sBrk_app, sCont_app, sSeq_app, sSet_app, sExpr_app, sRet_app, sRetN_app, sIf_app, sAsg_app, eRg1_app, eIsI_app, opAdd_int, opSub_int, opCmpI_int, opLt_int, opEq_int, tgName_app, tgNil_app, tgCons_app, tgTup_app, clr_nil', clr_cons', ofO_some, opIx_tup0, opIx_tup1, fLen_tup, fLen_lst, fTuple_lst, startD, isTy, List.map_cons, List.map_nil, List.length_cons, List.length_nil, List.cons_append, List.nil_append, List.replicate, Nat.reduceAdd, Nat.reduceSub, List.set_cons_zero, List.set_cons_succ, reduceIte, eq_self, Bool.false_eq_true, Bool.not_true, Bool.not_false, Option.bind_some, Bool.xor_false, Bool.xor_true, decide_true, decide_false, eExIs_1, l1]
  have c1 : ∀ M S, eCntB (eVar 2) (lCons (eK (.bl true)) lNil) [some (.raw u), some (.raw v), some (.lst L), M] S = .ok (.int 1) S := fun M S => eCntB_ok (l := L) rfl (by decide) (by decide)
  have i1 : ∀ S, opIn false (.bl true) (.lst (bools [false, false, false, false])) S = .ok (.bl false) S := fun S => rfl
  have i2 : ∀ S, slD S (.lst L) none (some 6) = .ok (.lst (bools [false, false, false, false, false, false])) S := fun S => rfl
  have i3 : ∀ S, opIn false (.bl true) (.lst (bools [false, false, false, false, false, false])) S = .ok (.bl false) S := fun S => rfl
  have i4 : ∀ S, opEq true (.bl false) (.bl false) S = .ok (.bl false) S := fun S => opEq_ex true (by decide) (by decide) S
  refine (sSeq_next (σ' := [some (.raw u), some (.raw v), some (.lst L), some (.lst (bools [false, false, false, false]))]) (S' := []) ?_).trans ?_
  · simp only [Out.bind_ok, mBind_app, mRet_app, eVar_0, eVar_1, eVar_2, eVar_3, eVar_4, eVar_5, eVar_6, eVar_7, eVar_8, eVar_9, eVar_10, eK_app, eOp_app, asB_bl, eTest_app, tru_bl, eTru_app, eChain_app, bNot_app, bAnd_app, bOr_app, eNot_app, eAnd_app, eOr_app, eIf_app, eUn_app, lNil_app, lCons_app, eTup_app, eLst_app, eLstM_app, eCall_app, eSlice_app, asI_int, eMeth_app, sNext_app, sNever_app, sBrk_app, sCont_app, sSeq_app, sSet_app, sExpr_app, sRet_app, sRetN_app, sIf_app, sAsg_app, eRg1_app, eIsI_app, opAdd_int, opSub_int, opCmpI_int, opLt_int, opEq_int, tgName_app, tgNil_app, tgCons_app, tgTup_app, clr_nil', clr_cons', ofO_some, opIx_tup0, opIx_tup1, fLen_tup, fLen_lst, fTuple_lst, startD, isTy, List.map_cons, List.map_nil, List.length_cons, List.length_nil, List.cons_append, List.nil_append, List.replicate, Nat.reduceAdd, Nat.reduceSub, List.set_cons_zero, List.set_cons_succ, reduceIte, eq_self, Bool.false_eq_true, Bool.not_true, Bool.not_false, Option.bind_some, Bool.xor_false, Bool.xor_true, decide_true, decide_false, eExIs_1, c1, i1, i2, i3, i4]
  refine sSeq_ret ?_
  refine (sIf_t (S' := []) rfl).trans ?_
  refine sRet_ok (eLst2_ok (x0 := .str "seat") (x1 := .str x.shown) rfl (eCall1_ok (d := .pd x) ?_ (hx _)))
  unfold eExF
  rw [if_pos (show ([some (.raw u), some (.raw v), some (.lst L), some (.lst (bools [false, false, false, false]))] : Sl)[1]? = some (some (.raw v)) from rfl)]
  exact if_pos ⟨by simp, rfl⟩
theorem postS_ret {i : Nat} {d : D} {S : Sto} : postS i (.ok (.ret d) S) = .ok (.ret d) S := rfl
theorem runS_ret {i : Nat} {ms : V → DM Fl} {σ : Sl} {S S' : Sto} {d : D} (h : ∀ v, ms v (σ.set i (some (.raw v))) S = .ok (.ret d) S') : runS i ms σ S = .ok (.ret d) S' := by
  unfold runS
  rw [if_pos (fun v => by rw [h v, h .non]), h .non]
  rfl
theorem eThk_exc {v : V} {e : Exn} {r : Sl} {S : Sto} : eThk 0 v (.exc e) (some (.raw v) :: r) S = .exc e (some (.raw v) :: r) S := by
  unfold eThk
  rw [if_pos (show (some (.raw v) :: r)[0]? = some (some (.raw v)) from rfl)]
theorem caught_web (v : V) : f__law_caught v (.exc exWeb) [.raw v] [] = .ok (.lst [.str "web"]) [] := by
  refine runF_pure (S' := []) ?_
  show m__law_caught v (.exc exWeb) [some (.raw v), none, none, none] [] = _
  unfold m__law_caught
  refine sSeq_ret ?_
  unfold sTryT
  have e : sExpr (eThk 0 v (.exc exWeb)) [some (.raw v), none, none, none] [] = .exc exWeb [some (.raw v), none, none, none] [] := by
    rw [sExpr_app, eThk_exc]; rfl
  rw [e]
  exact runS_ret (S' := []) fun u => s1_web u v
theorem caught_seat (v : V) (x : PyData) (hx : ∀ S, fReprD [.pd x] S = .ok (.str x.shown) S) : f__law_caught v (.exc (exSeat x)) [.raw v] [] = .ok (.lst [.str "seat", .str x.shown]) [] := by
  refine runF_pure (S' := []) ?_
  show m__law_caught v (.exc (exSeat x)) [some (.raw v), none, none, none] [] = _
  unfold m__law_caught
  refine sSeq_ret ?_
  unfold sTryT
  have e : sExpr (eThk 0 v (.exc (exSeat x))) [some (.raw v), none, none, none] [] = .exc (exSeat x) [some (.raw v), none, none, none] [] := by
    rw [sExpr_app, eThk_exc]; rfl
  rw [e]
  exact runS_ret (S' := []) fun u => s1_seat u v x hx
theorem eLam_of {fm : DT} {m : DM D} {σ : Sl} {S : Sto} {R : TR} {x : PyData} (h : thk m σ = R) (hf : ∀ v, fm v R [.raw v] [] = .ok (.pd x) []) : eLam fm m σ S = .ok (.pd x) S := by
  unfold eLam
  rw [h, if_pos (fun v => by rw [hf v, hf .non]), hf .non]
  rfl
theorem thk_of {m : DM D} {σ σe : Sl} {e : Exn} (h : m (hideS σ) [] = .exc e σe []) (hn : (e.fs.all fun p => noRef p.2) = true) : thk m σ = .exc e := by
  unfold thk
  rw [h]
  dsimp only
  rw [if_pos hn]
end K01
end
section
namespace K01
open PySem PySem.Spec PyProof.Rows L2 DL
theorem flatW {α : Type} (f : α → PyData) (c d : Nat) : ∀ l : List α, (∀ a ∈ l, smallW (f a) = true ∧ wtW (f a) ≤ c ∧ (f a).depth ≤ d) → smallWAll (l.map f) = true ∧ wtWAll (l.map f) ≤ (c + 2) * l.length ∧ PyData.depthAll (l.map f) ≤ d
  | [], _ => ⟨rfl, Nat.le_refl _, Nat.zero_le _⟩
  | a :: l, h => by
    obtain ⟨h1, h2, h3⟩ := flatW f c d l fun b hb => h b (List.mem_cons_of_mem _ hb)
    obtain ⟨a1, a2, a3⟩ := h a List.mem_cons_self
    rw [List.map_cons, List.length_cons]
    refine ⟨by rw [smallWAll, a1, h1]; rfl, ?_, by rw [PyData.depthAll]; omega⟩
    rw [wtWAll, Nat.mul_succ]
    omega
theorem nt_small {i : Nat} (h : i ≤ 1000) : smallW (nt i) = true ∧ wtW (nt i) ≤ 12 ∧ (nt i).depth ≤ 0 := by
  refine ⟨?_, Nat.le_refl _, Nat.le_refl _⟩
  unfold smallW
  simp only [Bool.and_eq_true, decide_eq_true_eq]
  omega
theorem eCall2_ok {f : LF} {m m2 : DM D} {d e d' : D} {σ : Sl} {S S' S2 S3 : Sto} (h : m σ S = .ok d S') (h2 : m2 σ S' = .ok e S2) (hf : f [d, e] S2 = .ok d' S3) : eCall f (lCons m (lCons m2 lNil)) σ S = .ok d' S3 := by
  rw [eCall_app, lCons_app, h, Out.bind_ok, lCons_app, h2]; exact hf
theorem fMin_nat (a b : Nat) (S : Sto) : fMin2 [.int a, .int b] S = .ok (.int (min a b : Nat)) S := by
  show Out.ok (D.int (if (b : Int) < a then b else a)) S = _
  congr 3
  split <;> omega
theorem fMax_nat (a b : Nat) (S : Sto) : fMax2 [.int a, .int b] S = .ok (.int (max a b : Nat)) S := by
  show Out.ok (D.int (if (b : Int) > a then b else a)) S = _
  congr 3
  split <;> omega
theorem nb_lt {n : Nat} {ts : List (Nat × Nat)} (w : GW n ts) {u v : Nat} (h : v ∈ nb ts u) : v < n := by
  unfold nb at h
  rw [List.mem_map] at h
  obtain ⟨p, hp, rfl⟩ := h
  rw [List.mem_filter] at hp
  have := w.tie p hp.1
  have h2 := hp.2
  simp only [Bool.or_eq_true, decide_eq_true_eq] at h2
  omega
theorem nb_len1 {n : Nat} {ts : List (Nat × Nat)} (w : GW n ts) (s : Nat) : (nb ts s).length ≤ 1000 := by
  unfold nb
  rw [List.length_map]
  exact Nat.le_trans (List.length_filter_le _ _) w.len
theorem web_small {n : Nat} {ts : List (Nat × Nat)} (w : GW n ts) : smallW (webD n ts) = true ∧ wtW (webD n ts) ≤ 40000 ∧ (webD n ts).depth ≤ 5 := by
  have hn := w.n12
  have hl := w.len
  obtain ⟨h1, h2, h3⟩ := flatW tieD 33 1 ts fun p hp => by
    have := w.tie p hp
    obtain ⟨a1, a2, a3⟩ := nt_small (i := p.1) (by omega)
    obtain ⟨b1, b2, b3⟩ := nt_small (i := p.2) (by omega)
    have a1 : smallW (.int (p.1 : Nat)) = true := a1
    have b1 : smallW (.int (p.2 : Nat)) = true := b1
    refine ⟨?_, ?_, ?_⟩
    · simp only [smallW, smallWAll, Bool.and_eq_true, decide_eq_true_eq, and_true]
      omega
    · simp only [wtW, wtWAll]; omega
    · simp [PyData.depth, PyData.depthAll]
  obtain ⟨a1, a2, a3⟩ := nt_small (i := n) (by omega)
  have a1 : smallW (.int (n : Nat)) = true := a1
  have hm : (33 + 2) * ts.length ≤ 35 * 1000 := Nat.mul_le_mul_left _ hl
  refine ⟨?_, ?_, ?_⟩
  · simp only [smallW, smallWAll, Bool.and_eq_true, decide_eq_true_eq, and_true, h1]
    omega
  · simp only [wtW, wtWAll]
    omega
  · simp only [PyData.depth, PyData.depthAll]
    omega

end K01
end
section
set_option maxHeartbeats 1000000
namespace K01
open PySem PySem.Spec PyProof.Rows L2 DL
theorem fReprD_ok {x : PyData} (h : reprOk x = true) (S : Sto) : fReprD [.pd x] S = .ok (.str x.shown) S := by
  have hd : x.hasDict = false := by
    unfold reprOk at h
    simp only [Bool.and_eq_true, Bool.not_eq_true'] at h
    exact h.1.1.1
  show (if x.hasDict = true then _ else fRepr [.pd x] S) = _
  rw [hd, if_neg (by simp)]
  exact fRepr_pd h S
theorem repr_web {n : Nat} {ts : List (Nat × Nat)} (w : GW n ts) : reprOk (webD n ts) = true := by
  obtain ⟨h1, h2, h3⟩ := web_small w
  exact reprOk_smallW h1 (by omega) (by omega)
abbrev toldP (n : Nat) (ts : List (Nat × Nat)) : PyData := .list ((List.range n).map fun s => .tuple ((nb ts s).map nD))
theorem row_nb {n : Nat} {ts : List (Nat × Nat)} (w : GW n ts) (s : Nat) : smallW (.tuple ((nb ts s).map nD)) = true ∧ wtW (.tuple ((nb ts s).map nD)) ≤ 14003 ∧ (PyData.tuple ((nb ts s).map nD)).depth ≤ 1 := by
  obtain ⟨h1, h2, h3⟩ := flatW nt 12 0 (nb ts s) fun i hi => nt_small (by have := nb_lt w hi; have := w.n12; omega)
  have hl := nb_len1 w s
  have h1 : smallWAll ((nb ts s).map nD) = true := h1
  have h2 : wtWAll ((nb ts s).map nD) ≤ (12 + 2) * (nb ts s).length := h2
  have h3 : PyData.depthAll ((nb ts s).map nD) ≤ 0 := h3
  refine ⟨by rw [smallW]; exact h1, by rw [wtW]; omega, by simp only [PyData.depth]; omega⟩
theorem repr_row {n : Nat} {ts : List (Nat × Nat)} (w : GW n ts) (s : Nat) : reprOk (.tuple ((nb ts s).map nD)) = true := by
  obtain ⟨h1, h2, h3⟩ := row_nb w s
  exact reprOk_smallW h1 (by omega) (by omega)
theorem repr_told {n : Nat} {ts : List (Nat × Nat)} (w : GW n ts) : reprOk (toldP n ts) = true := by
  obtain ⟨h1, h2, h3⟩ := flatW (fun s => PyData.tuple ((nb ts s).map nD)) 14003 1 (List.range n) fun s _ => row_nb w s
  have hn := w.n12
  rw [List.length_range] at h2
  refine reprOk_smallW (by rw [smallW]; exact h1) (by simp only [PyData.depth]; omega) (by rw [wtW]; omega)
/-! ### neighbours of what is none -/
theorem need_web_no {x : PyData} (h : isWebB x = false) (hs : shortW x) : f_need_web [.pd x] [] = .exc exWeb [] [] := by
  have h1 := fun σ S => callF_pd (n := 1) (is_web_gen x hs) rfl rfl rfl rfl σ S
  rw [h] at h1
  unfold f_need_web runF
  have e : m_need_web (startD 1 [.pd x]) [] = .exc exWeb [some (.pd x)] [] := by
    simp only [m_need_web, Out.bind_ok, mBind_app, mRet_app, eVar_0, eVar_1, eVar_2, eVar_3, eVar_4, eVar_5, eVar_6, eVar_7, eVar_8, eVar_9, eVar_10, eK_app, eOp_app, asB_bl, eTest_app, tru_bl, eTru_app, eChain_app, bNot_app, bAnd_app, bOr_app, eNot_app, eAnd_app, eOr_app, eIf_app, eUn_app, lNil_app, lCons_app, eTup_app, eLst_app, eLstM_app, eCall_app, eSlice_app, asI_int, eMeth_app, sNext_app, sNever_app, sBrk_app, sCont_app, sSeq_app, sSet_app, sExpr_app, sRet_app, sRetN_app, sIf_app, sAsg_app, eRg1_app, eIsI_app, opAdd_int, opSub_int, opCmpI_int, opLt_int, opEq_int, tgName_app, tgNil_app, tgCons_app, tgTup_app, clr_nil', clr_cons', ofO_some, opIx_tup0, opIx_tup1, fLen_tup, fLen_lst, fTuple_lst, startD, isTy, List.map_cons, List.map_nil, List.length_cons, List.length_nil, List.cons_append, List.nil_append, List.replicate, Nat.reduceAdd, Nat.reduceSub, List.set_cons_zero, List.set_cons_succ, reduceIte, eq_self, Bool.false_eq_true, Bool.not_true, Bool.not_false, Option.bind_some, Bool.xor_false, Bool.xor_true, decide_true, decide_false, h1]
    rfl
  rw [e]
  rfl
theorem callF_exc {n : Nat} {f : DF} {ds : List D} {e : Exn} {σ0 : Sl} (h : f ds [] = .exc e σ0 []) (hd : refsOf ds = []) (hr : renum 0 ds = ds) (hn : ds.length = n) (hnr : (e.fs.all fun p => noRef p.2) = true) (σ : Sl) (S : Sto) : callF n f ds σ S = .exc e σ S := by
  unfold callF
  rw [hd]
  simp only [obsAt_nil, hr, h]
  simp [hn]
  exact if_pos ⟨trivial, rfl, hnr⟩
theorem neighbours_noweb {x y : PyData} (h : isWebB x = false) (hs : shortW x) : f_neighbours [.pd x, .pd y] [] = .exc exWeb [] [] := by
  have h1 := fun σ S => callF_exc (n := 1) (need_web_no h hs) rfl rfl rfl rfl σ S
  unfold f_neighbours runF
  have e : m_neighbours (startD 2 [.pd x, .pd y]) [] = .exc exWeb [some (.pd x), some (.pd y)] [] := by
    simp only [m_neighbours, Out.bind_ok, mBind_app, mRet_app, eVar_0, eVar_1, eVar_2, eVar_3, eVar_4, eVar_5, eVar_6, eVar_7, eVar_8, eVar_9, eVar_10, eK_app, eOp_app, asB_bl, eTest_app, tru_bl, eTru_app, eChain_app, bNot_app, bAnd_app, bOr_app, eNot_app, eAnd_app, eOr_app, eIf_app, eUn_app, lNil_app, lCons_app, eTup_app, eLst_app, eLstM_app, eCall_app, eSlice_app, asI_int, eMeth_app, sNext_app, sNever_app, sBrk_app, sCont_app, sSeq_app, sSet_app, sExpr_app, sRet_app, sRetN_app, sIf_app, sAsg_app, eRg1_app, eIsI_app, opAdd_int, opSub_int, opCmpI_int, opLt_int, opEq_int, tgName_app, tgNil_app, tgCons_app, tgTup_app, clr_nil', clr_cons', ofO_some, opIx_tup0, opIx_tup1, fLen_tup, fLen_lst, fTuple_lst, startD, isTy, List.map_cons, List.map_nil, List.length_cons, List.length_nil, List.cons_append, List.nil_append, List.replicate, Nat.reduceAdd, Nat.reduceSub, List.set_cons_zero, List.set_cons_succ, reduceIte, eq_self, Bool.false_eq_true, Bool.not_true, Bool.not_false, Option.bind_some, Bool.xor_false, Bool.xor_true, decide_true, decide_false, h1]
    rfl
  rw [e]
  rfl
theorem need_seat_no {n : Nat} {ts : List (Nat × Nat)} {y : PyData} (h : belowB n y = false) : f_need_seat [.pd (webD n ts), .pd y] [] = .exc (exSeat y) [] [] := by
  have h1 := fun σ S => callF_pd (n := 2) (is_below_gen y n) rfl rfl rfl rfl σ S
  rw [h] at h1
  unfold f_need_seat runF
  have e : m_need_seat (startD 2 [.pd (webD n ts), .pd y]) [] = .exc (exSeat y) [some (.pd (webD n ts)), some (.pd y)] [] := by
    simp only [m_need_seat, Out.bind_ok, mBind_app, mRet_app, eVar_0, eVar_1, eVar_2, eVar_3, eVar_4, eVar_5, eVar_6, eVar_7, eVar_8, eVar_9, eVar_10, eK_app, eOp_app, asB_bl, eTest_app, tru_bl, eTru_app, eChain_app, bNot_app, bAnd_app, bOr_app, eNot_app, eAnd_app, eOr_app, eIf_app, eUn_app, lNil_app, lCons_app, eTup_app, eLst_app, eLstM_app, eCall_app, eSlice_app, asI_int, eMeth_app, sNext_app, sNever_app, sBrk_app, sCont_app, sSeq_app, sSet_app, sExpr_app, sRet_app, sRetN_app, sIf_app, sAsg_app, eRg1_app, eIsI_app, opAdd_int, opSub_int, opCmpI_int, opLt_int, opEq_int, tgName_app, tgNil_app, tgCons_app, tgTup_app, clr_nil', clr_cons', ofO_some, opIx_tup0, opIx_tup1, fLen_tup, fLen_lst, fTuple_lst, startD, isTy, List.map_cons, List.map_nil, List.length_cons, List.length_nil, List.cons_append, List.nil_append, List.replicate, Nat.reduceAdd, Nat.reduceSub, List.set_cons_zero, List.set_cons_succ, reduceIte, eq_self, Bool.false_eq_true, Bool.not_true, Bool.not_false, Option.bind_some, Bool.xor_false, Bool.xor_true, decide_true, decide_false, h1]
    rfl
  rw [e]
  rfl
theorem neighbours_noseat {n : Nat} {ts : List (Nat × Nat)} (w : GW n ts) {y : PyData} (h : belowB n y = false) : f_neighbours [.pd (webD n ts), .pd y] [] = .exc (exSeat y) [] [] := by
  have h1 := fun σ S => callF_pd (n := 1) (need_web_ok w) rfl rfl rfl rfl σ S
  have h2 := fun σ S => callF_exc (n := 2) (need_seat_no (n := n) (ts := ts) h) rfl rfl rfl rfl σ S
  unfold f_neighbours runF
  have e : m_neighbours (startD 2 [.pd (webD n ts), .pd y]) [] = .exc (exSeat y) [some (.pd (webD n ts)), some (.pd y)] [] := by
    simp only [m_neighbours, Out.bind_ok, mBind_app, mRet_app, eVar_0, eVar_1, eVar_2, eVar_3, eVar_4, eVar_5, eVar_6, eVar_7, eVar_8, eVar_9, eVar_10, eK_app, eOp_app, asB_bl, eTest_app, tru_bl, eTru_app, eChain_app, bNot_app, bAnd_app, bOr_app, eNot_app, eAnd_app, eOr_app, eIf_app, eUn_app, lNil_app, lCons_app, eTup_app, eLst_app, eLstM_app, eCall_app, eSlice_app, asI_int, eMeth_app, sNext_app, sNever_app, sBrk_app, sCont_app, sSeq_app, sSet_app, sExpr_app, sRet_app, sRetN_app, sIf_app, sAsg_app, eRg1_app, eIsI_app, opAdd_int, opSub_int, opCmpI_int, opLt_int, opEq_int, tgName_app, tgNil_app, tgCons_app, tgTup_app, clr_nil', clr_cons', ofO_some, opIx_tup0, opIx_tup1, fLen_tup, fLen_lst, fTuple_lst, startD, isTy, List.map_cons, List.map_nil, List.length_cons, List.length_nil, List.cons_append, List.nil_append, List.replicate, Nat.reduceAdd, Nat.reduceSub, List.set_cons_zero, List.set_cons_succ, reduceIte, eq_self, Bool.false_eq_true, Bool.not_true, Bool.not_false, Option.bind_some, Bool.xor_false, Bool.xor_true, decide_true, decide_false, h1, h2]
    rfl
  rw [e]
  rfl
/-! ### the lost -/
def losts (n s : Nat) : List PyData := [.int (-1), .int n, .none, .bool true, .str "0", .tuple [.int s], .list [], .int (10 ^ 39), .bool false]
theorem repr_consts : reprOk (.int (-1)) = true ∧ reprOk .none = true ∧ reprOk (.bool true) = true ∧ reprOk (.str "0") = true ∧ reprOk (.list []) = true ∧ reprOk (.int (10 ^ 39)) = true ∧ reprOk (.bool false) = true := by decide +kernel
theorem losts_ok {n s : Nat} (hn : n ≤ 12) (hs : s < n) : ∀ y ∈ losts n s, belowB n y = false ∧ reprOk y = true ∧ okS y = true := by
  obtain ⟨r1, r2, r3, r4, r5, r6, r7⟩ := repr_consts
  intro y hy
  unfold losts at hy
  simp only [List.mem_cons, List.not_mem_nil, or_false] at hy
  rcases hy with rfl | rfl | rfl | rfl | rfl | rfl | rfl | rfl | rfl
  · exact ⟨by show (decide (0 ≤ (-1 : Int)) && decide ((-1 : Int) < n)) = false; simp, r1, rfl⟩
  · refine ⟨by show (decide (0 ≤ (n : Int)) && decide ((n : Int) < n)) = false; simp, ?_, rfl⟩
    obtain ⟨a1, a2, a3⟩ := nt_small (i := n) (by omega)
    exact reprOk_smallW (d := nt n) a1 (Nat.le_trans a3 (by decide)) (Nat.le_trans a2 (by decide))
  · exact ⟨rfl, r2, rfl⟩
  · exact ⟨rfl, r3, rfl⟩
  · exact ⟨rfl, r4, by decide +kernel⟩
  · refine ⟨rfl, ?_, rfl⟩
    obtain ⟨h1, h2, h3⟩ := flatW nt 12 0 [s] fun i hi => nt_small (by rw [show i = s by simpa using hi]; omega)
    exact reprOk_smallW (d := .tuple ([s].map nt)) (by rw [smallW]; exact h1) (by simp only [PyData.depth]; omega) (by rw [wtW]; rw [List.length_singleton] at h2; omega)
  · exact ⟨rfl, r5, rfl⟩
  · refine ⟨?_, r6, rfl⟩
    show (decide (0 ≤ (10 ^ 39 : Int)) && decide ((10 ^ 39 : Int) < n)) = false
    rw [Bool.and_eq_false_iff]
    exact .inr (decide_eq_false (by omega))
  · exact ⟨rfl, r7, rfl⟩
end K01
end
section
set_option maxHeartbeats 1000000
namespace K01
open PySem PySem.Spec PyProof.Rows L2 DL
abbrev lw (ns : List Int) (k p : Nat) (x3 x4 x5 x6 x7 x8 : Option D) : Sl := [some (.lst (ns.map .int)), some (.int k), some (.ref p), x3, x4, x5, x6, x7, x8]
abbrev lw0 (ns : List Int) : Sl := [some (.lst (ns.map .int)), none, none, none, none, none, none, none, none]
theorem bent_at {S : Sto} {p : Nat} (h : PoolAt S p) {n : Nat} {us : List PyData} (hl : us.length ≤ 1000) (σ : Sl) : ∃ (x : PyData) (S' : Sto), x ∈ bents n us ∧ PoolAt S' p ∧ callF 2 f__law_bent_web [.ref p, .pd (.tuple [.int n, .tuple us])] σ S = .ok (.pd x) S' := by
  have hlt := h.lt
  obtain ⟨ob, hp, hS⟩ := h
  obtain ⟨x, ob', hx, hp', e⟩ := bent_ok hp (n := n) hl
  exact ⟨x, S.set p ob', hx, ⟨ob', hp', by rw [List.getElem?_set_self hlt]⟩, callF_ref hS hp.pd rfl e rfl rfl hp'.pd σ⟩
theorem fReprD_call {m : DM D} {x : PyData} {σ : Sl} {S S' : Sto} (h : m σ S = .ok (.pd x) S') (hr : reprOk x = true) : eCall fReprD (lCons m lNil) σ S = .ok (.str x.shown) S' := eCall1_ok h (fReprD_ok hr S')
theorem neRD {a b : DM D} {d : PyData} {σ : Sl} {S S1 S2 : Sto} (h : reprOk d = true) (ha : a σ S = .ok (.pd d) S1) (hb : b σ S1 = .ok (.pd d) S2) : eTest (eOp (opEq true) (eCall fReprD (lCons a lNil)) (eCall fReprD (lCons b lNil))) σ S = .ok false S2 := by
  rw [eTest_app, eOp_ok (fReprD_call ha h) (fReprD_call hb h) (neStr _ S2)]
  rfl
theorem if_next {c : DM Bool} {a : DM Fl} {σ : Sl} {S S' : Sto} (h : c σ S = .ok false S') : sIf c a sNext σ S = .ok (.next σ) S' := (sIf_f h).trans rfl
theorem ne_ok {a b : DM D} {x : PyData} {σ : Sl} {S S1 S2 : Sto} (ha : a σ S = .ok (.pd x) S1) (hb : b σ S1 = .ok (.pd x) S2) (h : ∀ S, opEq true (.pd x) (.pd x) S = .ok (.bl false) S) : eTest (eOp (opEq true) a b) σ S = .ok false S2 := by
  rw [eTest_app, eOp_ok ha hb (h S2)]
  rfl
/-- a refusal, as it must be -/
theorem lam_ok {m : DM D} {l : List Str} {e : Exn} {σ σe : Sl} {b : DM D} {S : Sto} (h : m (hideS σ) [] = .exc e σe []) (hn : (e.fs.all fun p => noRef p.2) = true) (hf : ∀ v, f__law_caught v (.exc e) [.raw v] [] = .ok (.lst (l.map .str)) []) (hb : b σ S = .ok (.lst (l.map .str)) S) (hk : ∀ x ∈ l, PyData.strOk x = true) :
    eTest (eOp (opEq true) (eLam f__law_caught m) b) σ S = .ok false S :=
  ne_ok (x := .list (l.map .str)) (eLam_of (thk_of h hn) hf) hb (fun S => neStrL hk S)
theorem call_exc {n : Nat} {f : DF} {m m2 : DM D} {d d2 : D} {e : Exn} {σ σ2 : Sl} {S S1 S2 S3 : Sto} (h : m σ S = .ok d S1) (h2 : m2 σ S1 = .ok d2 S2) (hc : callF n f [d, d2] σ S2 = .exc e σ2 S3) : mBind (lCons m (lCons m2 lNil)) (callF n f) σ S = .exc e σ2 S3 := by
  rw [mBind_app, lCons_app, h, Out.bind_ok, lCons_app, h2, Out.bind_ok, lNil_app, Out.bind_ok, Out.bind_ok, Out.bind_ok, hc]
section
variable {ns : List Int} {k p n s : Nat} {ts : List (Nat × Nat)} {bad lost : PyData}
theorem told_ok (w : GW n ts) {x4 x6 x7 x8 : Option D} (S : Sto) : mBind (lcAll [7] (iRange1 (lCons (eOp opIx (eVar 3) (eK (.int 0))) lNil)) (tgName 7) (mRet true) qlaw_e1) mkF (lw ns k p (some (.pd (webD n ts))) x4 none x6 x7 x8) S = .ok (.pd (toldP n ts)) S := by
  have hn := w.n12
  refine eLc_all (gu := .no) (List.range n) (fun (i : Nat) => D.int i) (fun s => .tuple ((nb ts s).map nD)) (iRange1_nat (n := n) (by simp only [Out.bind_ok, mBind_app, mRet_app, eVar_0, eVar_1, eVar_2, eVar_3, eVar_4, eVar_5, eVar_6, eVar_7, eVar_8, eVar_9, eVar_10, eK_app, eOp_app, asB_bl, eTest_app, tru_bl, eTru_app, eChain_app, bNot_app, bAnd_app, bOr_app, eNot_app, eAnd_app, eOr_app, eIf_app, eUn_app, lNil_app, lCons_app, eTup_app, eLst_app, eLstM_app, eCall_app, eSlice_app, asI_int, eMeth_app, sNext_app, sNever_app, sBrk_app, sCont_app, sSeq_app, sSet_app, sExpr_app, sRet_app, sRetN_app, sIf_app, sAsg_app, eRg1_app, eIsI_app, opAdd_int, opSub_int, opCmpI_int, opLt_int, opEq_int, tgName_app, tgNil_app, tgCons_app, tgTup_app, clr_nil', clr_cons', ofO_some, opIx_tup0, opIx_tup1, fLen_tup, fLen_lst, fTuple_lst, startD, isTy, List.map_cons, List.map_nil, List.length_cons, List.length_nil, List.cons_append, List.nil_append, List.replicate, Nat.reduceAdd, Nat.reduceSub, List.set_cons_zero, List.set_cons_succ, reduceIte, eq_self, Bool.false_eq_true, Bool.not_true, Bool.not_false, Option.bind_some, Bool.xor_false, Bool.xor_true, decide_true, decide_false]) (by omega)) (by exact trivial) (fun s hs => ⟨_, rfl, ?_⟩) (le_size (by rw [List.length_range]; omega))
  have h := callF_pd (n := 2) (neighbours_ok w (List.mem_range.mp hs)) rfl rfl rfl rfl (lw ns k p (some (.pd (webD n ts))) x4 none x6 (some (.int s)) x8) S
  exact call2_ok (d := .pd (webD n ts)) (e := .int s) rfl rfl h
theorem due_ok (w : GW n ts) {x4 x5 x6 x7 x8 : Option D} (S : Sto) : eLc [7] (iRange1 (lCons (eOp opIx (eVar 3) (eK (.int 0))) lNil)) (tgName 7) (mRet true) qlaw_e2 (lw ns k p (some (.pd (webD n ts))) x4 x5 x6 x7 x8) S = .ok (.pd (toldP n ts)) S := by
  have hn := w.n12
  refine eLc_all (gu := .no) (List.range n) (fun (i : Nat) => D.int i) (fun s => .tuple ((nb ts s).map nD)) (iRange1_nat (n := n) (by simp only [Out.bind_ok, mBind_app, mRet_app, eVar_0, eVar_1, eVar_2, eVar_3, eVar_4, eVar_5, eVar_6, eVar_7, eVar_8, eVar_9, eVar_10, eK_app, eOp_app, asB_bl, eTest_app, tru_bl, eTru_app, eChain_app, bNot_app, bAnd_app, bOr_app, eNot_app, eAnd_app, eOr_app, eIf_app, eUn_app, lNil_app, lCons_app, eTup_app, eLst_app, eLstM_app, eCall_app, eSlice_app, asI_int, eMeth_app, sNext_app, sNever_app, sBrk_app, sCont_app, sSeq_app, sSet_app, sExpr_app, sRet_app, sRetN_app, sIf_app, sAsg_app, eRg1_app, eIsI_app, opAdd_int, opSub_int, opCmpI_int, opLt_int, opEq_int, tgName_app, tgNil_app, tgCons_app, tgTup_app, clr_nil', clr_cons', ofO_some, opIx_tup0, opIx_tup1, fLen_tup, fLen_lst, fTuple_lst, startD, isTy, List.map_cons, List.map_nil, List.length_cons, List.length_nil, List.cons_append, List.nil_append, List.replicate, Nat.reduceAdd, Nat.reduceSub, List.set_cons_zero, List.set_cons_succ, reduceIte, eq_self, Bool.false_eq_true, Bool.not_true, Bool.not_false, Option.bind_some, Bool.xor_false, Bool.xor_true, decide_true, decide_false]) (by omega)) (by exact trivial) (fun s hs => ⟨_, rfl, ?_⟩) (le_size (by rw [List.length_range]; omega))
  have h := callF_pd (n := 2) (beside_ok (n := n) s w.len) rfl rfl rfl rfl (lw ns k p (some (.pd (webD n ts))) x4 x5 x6 (some (.int s)) x8) S
  exact eCall1_ok (call2_ok (d := .pd (webD n ts)) (e := .int s) rfl rfl h) (fTuple_lst _)
theorem ix_told (w : GW n ts) (hs : s < n) (S : Sto) : opIx (.pd (toldP n ts)) (.int s) S = .ok (.tup ((nb ts s).map nD)) S := by
  refine opIx_lstN ?_
  rw [List.getElem?_map, List.getElem?_range hs]
  rfl
end
theorem body_ok (ns : List Int) (k : Nat) (S : Sto) : Sat (qlaw_b6 ((lw0 ns).set 1 (some (.int k))) S) fun f S' => match f with
    | .next σ2 => clr [1, 2, 3, 4, 5, 6, 7, 8] σ2 = lw0 ns
    | _ => False := by
  let p := S.length
  obtain ⟨ob, hp, e1⟩ := pool_call ns k ((lw0 ns).set 1 (some (.int k))) S
  have hg : PoolAt (S ++ [ob]) p := ⟨ob, hp, by
    show (S ++ [ob])[S.length]? = some ob
    rw [List.getElem?_append_right (Nat.le_refl _), Nat.sub_self]; rfl⟩
  obtain ⟨n, ts, S1, hn, w, hp1, _, e2⟩ := any_at hg (m := 12) (by omega) (by omega) (lw ns k p none none none none none none)
  have rw1 := repr_web w
  have rt := repr_told w
  obtain ⟨bad, S2, hbad, hp2, e3⟩ := bent_at hp1 (n := n) (us := ts.map tieD) (by rw [List.length_map]; exact w.len) (lw ns k p (some (.pd (webD n ts))) (some (.str (webD n ts).shown)) (some (.pd (toldP n ts))) none none none)
  obtain ⟨bno, bsh⟩ := bents_no w bad hbad
  obtain ⟨s, S3, hs, hp3, _, _, e4⟩ := take_at hp2 (many := n) w.n1 (by omega) (lw ns k p (some (.pd (webD n ts))) (some (.str (webD n ts).shown)) (some (.pd (toldP n ts))) (some (.pd bad)) none none)
  obtain ⟨i, S4, hi, hp4, _, _, e5⟩ := take_at hp3 (many := 9) (by omega) (by omega) (lw ns k p (some (.pd (webD n ts))) (some (.str (webD n ts).shown)) (some (.pd (toldP n ts))) (some (.pd bad)) (some (.int s)) none)
  have hll : (losts n s).length = 9 := rfl
  let lost := (losts n s)[i]
  obtain ⟨lno, lre, lok⟩ := losts_ok hn hs lost (List.getElem_mem (by omega))
  have lsk : ∀ x ∈ (["seat", lost.shown] : List Str), PyData.strOk x = true := fun x hx => by
    rcases List.mem_cons.mp hx with rfl | hx
    · exact strOk_of _
    · rw [show x = lost.shown by simpa using hx]
      exact okS_shown _ lok
  have hweb := fun σ S => callF_pd (n := 1) (is_web_ok w) rfl rfl rfl rfl σ S
  have hbw := fun σ S => callF_pd (n := 1) (is_web_gen bad bsh) rfl rfl rfl rfl σ S
  rw [bno] at hbw
  have h12 := fun σ S => callF_pd (n := 1) (is_web_ok (n := 12) (ts := []) ⟨by omega, by omega, fun _ h => (nomatch h), .nil, by simp⟩) rfl rfl rfl rfl σ S
  refine ⟨.next (lw ns k p (some (.pd (webD n ts))) (some (.str (webD n ts).shown)) (some (.pd (toldP n ts))) (some (.pd bad)) (some (.int s)) (some (.pd lost))), S4, ?_, rfl⟩
  unfold qlaw_b6
  refine (sSeq_next (sSet_ok (d := .ref p) (S' := S ++ [ob]) ?_)).trans ?_
  · rw [mBind_app, lCons_app]
    exact e1
  refine (sSeq_next (sSet_ok (call2_ok (d := .ref p) (e := .int (12 : Nat)) rfl rfl e2))).trans ?_
  refine (sSeq_next (sSet_ok (fReprD_call (x := webD n ts) rfl rw1))).trans ?_
  refine (sSeq_next (sSet_ok (told_ok w _))).trans ?_
  refine (sSeq_next (if_next (neRD (d := toldP n ts) rt rfl (due_ok w _)))).trans ?_
  refine (sSeq_next (sSet_ok (call2_ok (d := .ref p) (e := .pd (webD n ts)) rfl rfl e3))).trans ?_
  refine (sSeq_next (if_next (S' := S2) (ne_ok (x := .list [.bool true, .bool false, .bool true, .bool true]) (S1 := S2) (S2 := S2) ?_ ?_ fun S => opNe_same (by decide) (by decide) S))).trans ?_
  · refine eLstN_ok (xs := [.bool true, .bool false, .bool true, .bool true]) (S' := S2) ?_ (by simp)
    have h12' : ∀ σ S, callF 1 f_is_web [D.tup [PyData.int 12, PyData.tuple []]] σ S = .ok (.bl true) S := h12
    simp only [Out.bind_ok, mBind_app, mRet_app, eVar_0, eVar_1, eVar_2, eVar_3, eVar_4, eVar_5, eVar_6, eVar_7, eVar_8, eVar_9, eVar_10, eK_app, eOp_app, asB_bl, eTest_app, tru_bl, eTru_app, eChain_app, bNot_app, bAnd_app, bOr_app, eNot_app, eAnd_app, eOr_app, eIf_app, eUn_app, lNil_app, lCons_app, eTup_app, eLst_app, eLstM_app, eCall_app, eSlice_app, asI_int, eMeth_app, sNext_app, sNever_app, sBrk_app, sCont_app, sSeq_app, sSet_app, sExpr_app, sRet_app, sRetN_app, sIf_app, sAsg_app, eRg1_app, eIsI_app, opAdd_int, opSub_int, opCmpI_int, opLt_int, opEq_int, tgName_app, tgNil_app, tgCons_app, tgTup_app, clr_nil', clr_cons', ofO_some, opIx_tup0, opIx_tup1, fLen_tup, fLen_lst, fTuple_lst, startD, isTy, List.map_cons, List.map_nil, List.length_cons, List.length_nil, List.cons_append, List.nil_append, List.replicate, Nat.reduceAdd, Nat.reduceSub, List.set_cons_zero, List.set_cons_succ, reduceIte, eq_self, Bool.false_eq_true, Bool.not_true, Bool.not_false, Option.bind_some, Bool.xor_false, Bool.xor_true, decide_true, decide_false, hweb, hbw, mkTup0, mkTup2, h12']
  · exact eLstN_ok (xs := [.bool true, .bool false, .bool true, .bool true]) (S' := S2) rfl (by simp)
  refine (sSeq_next (sSet_ok (call2_ok (d := .ref p) (e := .int n) rfl rfl e4))).trans ?_
  refine (sSeq_next (sSet_ok (d := .pd lost) (S' := S4) (eOp_ok (d := .lst (losts n s)) (e := .int i) (S' := S3) (S2 := S4) ?_ (call2_ok (d := .ref p) (e := .int (9 : Nat)) rfl rfl e5) ?_))).trans ?_
  · refine eLstN_ok (xs := losts n s) ?_ (by rw [hll]; omega)
    simp only [Out.bind_ok, mBind_app, mRet_app, eVar_0, eVar_1, eVar_2, eVar_3, eVar_4, eVar_5, eVar_6, eVar_7, eVar_8, eVar_9, eVar_10, eK_app, eOp_app, asB_bl, eTest_app, tru_bl, eTru_app, eChain_app, bNot_app, bAnd_app, bOr_app, eNot_app, eAnd_app, eOr_app, eIf_app, eUn_app, lNil_app, lCons_app, eTup_app, eLst_app, eLstM_app, eCall_app, eSlice_app, asI_int, eMeth_app, sNext_app, sNever_app, sBrk_app, sCont_app, sSeq_app, sSet_app, sExpr_app, sRet_app, sRetN_app, sIf_app, sAsg_app, eRg1_app, eIsI_app, opAdd_int, opSub_int, opCmpI_int, opLt_int, opEq_int, tgName_app, tgNil_app, tgCons_app, tgTup_app, clr_nil', clr_cons', ofO_some, opIx_tup0, opIx_tup1, fLen_tup, fLen_lst, fTuple_lst, startD, isTy, List.map_cons, List.map_nil, List.length_cons, List.length_nil, List.cons_append, List.nil_append, List.replicate, Nat.reduceAdd, Nat.reduceSub, List.set_cons_zero, List.set_cons_succ, reduceIte, eq_self, Bool.false_eq_true, Bool.not_true, Bool.not_false, Option.bind_some, Bool.xor_false, Bool.xor_true, decide_true, decide_false, mkTup1, mkLst0, uNeg_int, show ∀ S, opPow (.int 10) (.int 39) S = .ok (.int (10 ^ 39)) S from fun S => rfl]
    rfl
  · exact opIx_lstN (List.getElem?_eq_getElem (by omega))
  refine (sSeq_next (if_next (lam_ok (l := ["web"]) (call_exc rfl rfl (callF_exc (n := 2) (neighbours_noweb (y := lost) bno bsh) rfl rfl rfl rfl _ _)) rfl caught_web (eLst1_ok rfl) (by decide +kernel)))).trans ?_
  refine (sSeq_next (if_next (lam_ok (l := ["web"]) (call_exc rfl rfl (callF_exc (n := 2) (neighbours_noweb (y := .int s) bno bsh) rfl rfl rfl rfl _ _)) rfl caught_web (eLst1_ok rfl) (by decide +kernel)))).trans ?_
  refine (sSeq_next (if_next (lam_ok (l := ["seat", lost.shown]) (call_exc rfl rfl (callF_exc (n := 2) (neighbours_noseat w lno) rfl rfl rfl rfl _ _)) rfl (fun v => caught_seat v lost fun S => fReprD_ok lre S) (eLst2_ok rfl (fReprD_call rfl lre)) lsk))).trans ?_
  have hnb := fun σ S => callF_pd (n := 2) (neighbours_ok w hs) rfl rfl rfl rfl σ S
  refine if_next ((bOr_f (neRD (repr_row w s) (call2_ok (d := .pd (webD n ts)) (e := .int s) rfl rfl (hnb _ _)) (eOp_ok (d := .pd (toldP n ts)) (e := .int s) rfl rfl (ix_told w hs _)))).trans ?_)
  rw [eTest_app, eOp_ok (fReprD_call (x := webD n ts) rfl rw1) (d' := .bl false) (e := .str (webD n ts).shown) rfl (neStr _ _)]
  rfl
theorem law_holds : ∀ ns : List Int, ns.length ≤ 63 → f_law [.lst (ns.map .int)] [] = .ok (.bl true) [] := by
  intro ns hz
  have h : Sat (sFor [1, 2, 3, 4, 5, 6, 7, 8] (iRange1 (lCons (eCall fMax2 (lCons (eK (.int 1)) (lCons (eCall fMin2 (lCons (eK (.int 12)) (lCons (eCall fLen (lCons (eVar 0) lNil)) lNil))) lNil))) lNil)) (tgName 1) qlaw_b6 (lw0 ns) []) fun f _ => f = .next (lw0 ns) := by
    obtain ⟨m, hm, em⟩ : ∃ m : Nat, m ≤ 1000000 ∧ (lCons (eCall fMax2 (lCons (eK (.int 1)) (lCons (eCall fMin2 (lCons (eK (.int 12)) (lCons (eCall fLen (lCons (eVar 0) lNil)) lNil))) lNil))) lNil) (lw0 ns) [] = .ok [.int m] [] := by
      have e : eCall fLen (lCons (eVar 0) lNil) (lw0 ns) [] = .ok (.int (ns.length : Nat)) [] := by
        refine eCall1_ok (d := .lst (ns.map .int)) rfl ?_
        rw [fLen_lst, List.length_map]
      have e2 : eCall fMin2 (lCons (eK (.int 12)) (lCons (eCall fLen (lCons (eVar 0) lNil)) lNil)) (lw0 ns) [] = .ok (.int (min 12 ns.length : Nat)) [] := by
        refine eCall2_ok (d := .int 12) rfl e ?_
        exact fMin_nat 12 ns.length []
      refine ⟨max 1 (min 12 ns.length), by omega, ?_⟩
      have e4 : eCall fMax2 (lCons (eK (.int 1)) (lCons (eCall fMin2 (lCons (eK (.int 12)) (lCons (eCall fLen (lCons (eVar 0) lNil)) lNil))) lNil)) (lw0 ns) [] = .ok (.int (max 1 (min 12 ns.length) : Nat)) [] := eCall2_ok (d := .int 1) rfl e2 (fMax_nat 1 _ _)
      rw [lCons_app, e4]
      rfl
    rw [sFor_app, iRange1_nat (n := m) em hm]
    refine forGo_range m (fun j σ S => σ = lw0 ns) ?_ (fun σ S h => by rw [h]) rfl
    rintro k σ S hk rfl
    refine (body_ok ns k S).imp fun f S' hf => ?_
    cases f with
    | next σ2 => exact hf
    | cont σ2 => exact hf.elim
    | brk σ2 => exact hf.elim
    | ret d => exact hf.elim
  obtain ⟨f, S', e, rfl⟩ := h
  refine runF_pure (S' := S') ?_
  show m_law (lw0 ns) [] = _
  unfold m_law
  refine (sSeq_next e).trans (sRet_ok ?_)
  exact eOp_ok rfl rfl (opEq_int false 12 12 _)
end K01
end
section
open PySem PySem.W PyProof.Rows in
set_option maxRecDepth 100000 in
set_option maxHeartbeats 0 in
theorem PySem.Challenge.cw_comeright_k01_webs_known_holds : PySem.Challenge.rw_comeright_k01_webs_known.Holds := by
  w_on; o_law; k_head; (case hw => w_witness2)
  k_fill
  refine K01.walk (l := PySem.Challenge.rw_comeright_k01_webs_known) rfl rfl ?nl ?kt ?kr ?hin (fun w h Y => by first | exact PySem.W.kIn_of Y | exact PySem.W.km_in_of Y) ?F K01.law_holds
  case nl => intro w; first | rfl | kernel_rfl
  case kt => intro w; first | rfl | kernel_rfl
  case kr => intro w; first | rfl | kernel_rfl
  case hin => first | rfl | kernel_rfl | decide
  case F =>
    intro w mg fa h KX G hmg
    refine' K01.top_fa KX G hmg ?q_g0 ?q_l0 ?q_c0 ?q_k0 ?q_g1 ?q_l1 ?q_c1 ?q_k1 ?q_g2 ?q_l2 ?q_c2 ?q_k2 ?q_g3 ?q_l3 ?q_c3 ?q_k3 ?q_g4 ?q_l4 ?q_c4 ?q_k4 ?q_g5 ?q_l5 ?q_c5 ?q_k5 ?q_g6 ?q_l6 ?q_c6 ?q_k6 ?q_g7 ?q_l7 ?q_c7 ?q_k7 ?q_g8 ?q_l8 ?q_c8 ?q_k8 ?q_g9 ?q_l9 ?q_c9 ?q_k9 ?q_g10 ?q_l10 ?q_c10 ?q_k10 ?q_g11 ?q_l11 ?q_c11 ?q_k11 ?q_g12 ?q_l12 ?q_c12 ?q_k12 ?q_g13 ?q_l13 ?q_c13 ?q_k13 ?q_g14 ?q_l14 ?q_c14 ?q_k14 ?q_g15 ?q_l15 ?q_c15 ?q_k15 ?q_g16 ?q_l16 ?q_c16 ?q_k16 ?q_lt16 ?q_z_abs ?q_z_all ?q_z_bool ?q_z_int ?q_z_isinstance ?q_z_len ?q_z_list ?q_z_max ?q_z_min ?q_z_range ?q_z_repr ?q_z_sorted ?q_z_tuple ?q_z_zip ?q_y_MOST_SEATS ?q_cg_ComeError ?q_cb_ComeError ?q_ct_ComeError ?q_ck_ComeError ?q_cg_NoDeed ?q_cb_NoDeed ?q_ct_NoDeed ?q_ck_NoDeed ?q_cg_NoGoes ?q_cb_NoGoes ?q_ct_NoGoes ?q_ck_NoGoes ?q_cg_NoNumber ?q_cb_NoNumber ?q_ct_NoNumber ?q_ck_NoNumber ?q_cg_NoPlan ?q_cb_NoPlan ?q_ct_NoPlan ?q_ck_NoPlan ?q_cg_NoPlans ?q_cb_NoPlans ?q_ct_NoPlans ?q_ck_NoPlans ?q_cg_NoRun ?q_cb_NoRun ?q_ct_NoRun ?q_ck_NoRun ?q_cg_NoScene ?q_cb_NoScene ?q_ct_NoScene ?q_ck_NoScene ?q_cg_NoSeat ?q_cb_NoSeat ?q_ct_NoSeat ?q_ck_NoSeat ?q_cg_NoTable ?q_cb_NoTable ?q_ct_NoTable ?q_ck_NoTable ?q_cg_NoTerm ?q_cb_NoTerm ?q_ct_NoTerm ?q_ck_NoTerm ?q_cg_NoWeb ?q_cb_NoWeb ?q_ct_NoWeb ?q_ck_NoWeb ?q_cg_NoWords ?q_cb_NoWords ?q_ct_NoWords ?q_ck_NoWords ?q_ci_ComeError ?q_cs_NoWeb_ComeError ?q_cs_NoSeat_ComeError ?q_ci_NoNumber ?q_cs_NoWeb_NoNumber ?q_cs_NoSeat_NoNumber ?q_ci_NoSeat ?q_cs_NoWeb_NoSeat ?q_cs_NoSeat_NoSeat ?q_cx_NoWeb ?q_cz_NoSeat ?q_cq_NoSeat ?q_co_NoSeat ?q_ca_NoSeat ?q_cu_NoSeat ?q_ch_NoSeat ?q_cn_NoSeat ?q_cf_NoSeat ?q_cv_NoSeat ?q_cl_NoSeat ?q_cc_NoSeat ?q_cp_NoSeat ?q_xn_ ?q_xt_ ?q_x1_NoWeb ?q_x2_NoWeb ?q_x3_NoWeb ?q_x4_NoWeb ?q_x5_NoWeb ?q_xk_NoWeb_ComeError ?q_xk_NoWeb_NoDeed ?q_xk_NoWeb_NoGoes ?q_xk_NoWeb_NoNumber ?q_xk_NoWeb_NoPlan ?q_xk_NoWeb_NoPlans ?q_xk_NoWeb_NoRun ?q_xk_NoWeb_NoScene ?q_xk_NoWeb_NoSeat ?q_xk_NoWeb_NoTable ?q_xk_NoWeb_NoTerm ?q_xk_NoWeb_NoWeb ?q_xk_NoWeb_NoWords ?q_x1_NoSeat ?q_x2_NoSeat ?q_x3_NoSeat ?q_x4_NoSeat ?q_x5_NoSeat ?q_xk_NoSeat_ComeError ?q_xk_NoSeat_NoDeed ?q_xk_NoSeat_NoGoes ?q_xk_NoSeat_NoNumber ?q_xk_NoSeat_NoPlan ?q_xk_NoSeat_NoPlans ?q_xk_NoSeat_NoRun ?q_xk_NoSeat_NoScene ?q_xk_NoSeat_NoSeat ?q_xk_NoSeat_NoTable ?q_xk_NoSeat_NoTerm ?q_xk_NoSeat_NoWeb ?q_xk_NoSeat_NoWords ?q_dgq_NoSeat ?q_dhq_NoSeat ?q_ddq_NoSeat ?q_dnq_NoSeat_seat
    (case q_g0 => k_is)
    (case q_l0 => k_is)
    (case q_c0 => k_is)
    (case q_k0 => k_is)
    (case q_g1 => k_is)
    (case q_l1 => k_is)
    (case q_c1 => k_is)
    (case q_k1 => k_is)
    (case q_g2 => k_is)
    (case q_l2 => k_is)
    (case q_c2 => k_is)
    (case q_k2 => k_is)
    (case q_g3 => k_is)
    (case q_l3 => k_is)
    (case q_c3 => k_is)
    (case q_k3 => k_is)
    (case q_g4 => k_is)
    (case q_l4 => k_is)
    (case q_c4 => k_is)
    (case q_k4 => k_is)
    (case q_g5 => k_is)
    (case q_l5 => k_is)
    (case q_c5 => k_is)
    (case q_k5 => k_is)
    (case q_g6 => k_is)
    (case q_l6 => k_is)
    (case q_c6 => k_is)
    (case q_k6 => k_is)
    (case q_g7 => k_is)
    (case q_l7 => k_is)
    (case q_c7 => k_is)
    (case q_k7 => k_is)
    (case q_g8 => k_is)
    (case q_l8 => k_is)
    (case q_c8 => k_is)
    (case q_k8 => k_is)
    (case q_g9 => k_is)
    (case q_l9 => k_is)
    (case q_c9 => k_is)
    (case q_k9 => k_is)
    (case q_g10 => k_is)
    (case q_l10 => k_is)
    (case q_c10 => k_is)
    (case q_k10 => k_is)
    (case q_g11 => k_is)
    (case q_l11 => k_is)
    (case q_c11 => k_is)
    (case q_k11 => k_is)
    (case q_g12 => k_is)
    (case q_l12 => k_is)
    (case q_c12 => k_is)
    (case q_k12 => k_is)
    (case q_g13 => k_is)
    (case q_l13 => k_is)
    (case q_c13 => k_is)
    (case q_k13 => k_is)
    (case q_g14 => k_is)
    (case q_l14 => k_is)
    (case q_c14 => k_is)
    (case q_k14 => k_is)
    (case q_g15 => k_is)
    (case q_l15 => k_is)
    (case q_c15 => k_is)
    (case q_k15 => k_is)
    (case q_g16 => k_is)
    (case q_l16 => k_is)
    (case q_c16 => k_is)
    (case q_k16 => k_is)
    (case q_lt16 => first | rfl | kernel_rfl)
    (case q_z_abs => k_is)
    (case q_z_all => k_is)
    (case q_z_bool => k_is)
    (case q_z_int => k_is)
    (case q_z_isinstance => k_is)
    (case q_z_len => k_is)
    (case q_z_list => k_is)
    (case q_z_max => k_is)
    (case q_z_min => k_is)
    (case q_z_range => k_is)
    (case q_z_repr => k_is)
    (case q_z_sorted => k_is)
    (case q_z_tuple => k_is)
    (case q_z_zip => k_is)
    (case q_y_MOST_SEATS => k_is)
    (case q_cg_ComeError => k_is)
    (case q_cb_ComeError => k_is)
    (case q_ct_ComeError => k_is)
    (case q_ck_ComeError => k_is)
    (case q_cg_NoDeed => k_is)
    (case q_cb_NoDeed => k_is)
    (case q_ct_NoDeed => k_is)
    (case q_ck_NoDeed => k_is)
    (case q_cg_NoGoes => k_is)
    (case q_cb_NoGoes => k_is)
    (case q_ct_NoGoes => k_is)
    (case q_ck_NoGoes => k_is)
    (case q_cg_NoNumber => k_is)
    (case q_cb_NoNumber => k_is)
    (case q_ct_NoNumber => k_is)
    (case q_ck_NoNumber => k_is)
    (case q_cg_NoPlan => k_is)
    (case q_cb_NoPlan => k_is)
    (case q_ct_NoPlan => k_is)
    (case q_ck_NoPlan => k_is)
    (case q_cg_NoPlans => k_is)
    (case q_cb_NoPlans => k_is)
    (case q_ct_NoPlans => k_is)
    (case q_ck_NoPlans => k_is)
    (case q_cg_NoRun => k_is)
    (case q_cb_NoRun => k_is)
    (case q_ct_NoRun => k_is)
    (case q_ck_NoRun => k_is)
    (case q_cg_NoScene => k_is)
    (case q_cb_NoScene => k_is)
    (case q_ct_NoScene => k_is)
    (case q_ck_NoScene => k_is)
    (case q_cg_NoSeat => k_is)
    (case q_cb_NoSeat => k_is)
    (case q_ct_NoSeat => k_is)
    (case q_ck_NoSeat => k_is)
    (case q_cg_NoTable => k_is)
    (case q_cb_NoTable => k_is)
    (case q_ct_NoTable => k_is)
    (case q_ck_NoTable => k_is)
    (case q_cg_NoTerm => k_is)
    (case q_cb_NoTerm => k_is)
    (case q_ct_NoTerm => k_is)
    (case q_ck_NoTerm => k_is)
    (case q_cg_NoWeb => k_is)
    (case q_cb_NoWeb => k_is)
    (case q_ct_NoWeb => k_is)
    (case q_ck_NoWeb => k_is)
    (case q_cg_NoWords => k_is)
    (case q_cb_NoWords => k_is)
    (case q_ct_NoWords => k_is)
    (case q_ck_NoWords => k_is)
    (case q_ci_ComeError => k_is)
    (case q_cs_NoWeb_ComeError => first | rfl | k_is)
    (case q_cs_NoSeat_ComeError => first | rfl | k_is)
    (case q_ci_NoNumber => k_is)
    (case q_cs_NoWeb_NoNumber => first | rfl | k_is)
    (case q_cs_NoSeat_NoNumber => first | rfl | k_is)
    (case q_ci_NoSeat => k_is)
    (case q_cs_NoWeb_NoSeat => first | rfl | k_is)
    (case q_cs_NoSeat_NoSeat => first | rfl | k_is)
    (case q_cx_NoWeb => k_exc)
    (case q_cz_NoSeat => k_is)
    (case q_cq_NoSeat => first | rfl | k_is | k_exc)
    (case q_co_NoSeat => first | rfl | k_is | k_exc)
    (case q_ca_NoSeat => k_is)
    (case q_cu_NoSeat => first | rfl | k_is)
    (case q_ch_NoSeat => k_is)
    (case q_cn_NoSeat => k_is)
    (case q_cf_NoSeat => k_is)
    (case q_cv_NoSeat => first | rfl | k_is)
    (case q_cl_NoSeat => k_is)
    (case q_cc_NoSeat => k_is)
    (case q_cp_NoSeat => k_is)
    (case q_xn_ => k_is)
    (case q_xt_ => k_is)
    (case q_x1_NoWeb => first | rfl | k_is)
    (case q_x2_NoWeb => k_is)
    (case q_x3_NoWeb => k_is)
    (case q_x4_NoWeb => k_is)
    (case q_x5_NoWeb => first | rfl | k_is)
    (case q_xk_NoWeb_ComeError => first | rfl | k_is | decide)
    (case q_xk_NoWeb_NoDeed => first | rfl | k_is | decide)
    (case q_xk_NoWeb_NoGoes => first | rfl | k_is | decide)
    (case q_xk_NoWeb_NoNumber => first | rfl | k_is | decide)
    (case q_xk_NoWeb_NoPlan => first | rfl | k_is | decide)
    (case q_xk_NoWeb_NoPlans => first | rfl | k_is | decide)
    (case q_xk_NoWeb_NoRun => first | rfl | k_is | decide)
    (case q_xk_NoWeb_NoScene => first | rfl | k_is | decide)
    (case q_xk_NoWeb_NoSeat => first | rfl | k_is | decide)
    (case q_xk_NoWeb_NoTable => first | rfl | k_is | decide)
    (case q_xk_NoWeb_NoTerm => first | rfl | k_is | decide)
    (case q_xk_NoWeb_NoWeb => first | rfl | k_is | decide)
    (case q_xk_NoWeb_NoWords => first | rfl | k_is | decide)
    (case q_x1_NoSeat => first | rfl | k_is)
    (case q_x2_NoSeat => k_is)
    (case q_x3_NoSeat => k_is)
    (case q_x4_NoSeat => k_is)
    (case q_x5_NoSeat => first | rfl | k_is)
    (case q_xk_NoSeat_ComeError => first | rfl | k_is | decide)
    (case q_xk_NoSeat_NoDeed => first | rfl | k_is | decide)
    (case q_xk_NoSeat_NoGoes => first | rfl | k_is | decide)
    (case q_xk_NoSeat_NoNumber => first | rfl | k_is | decide)
    (case q_xk_NoSeat_NoPlan => first | rfl | k_is | decide)
    (case q_xk_NoSeat_NoPlans => first | rfl | k_is | decide)
    (case q_xk_NoSeat_NoRun => first | rfl | k_is | decide)
    (case q_xk_NoSeat_NoScene => first | rfl | k_is | decide)
    (case q_xk_NoSeat_NoSeat => first | rfl | k_is | decide)
    (case q_xk_NoSeat_NoTable => first | rfl | k_is | decide)
    (case q_xk_NoSeat_NoTerm => first | rfl | k_is | decide)
    (case q_xk_NoSeat_NoWeb => first | rfl | k_is | decide)
    (case q_xk_NoSeat_NoWords => first | rfl | k_is | decide)
    (case q_dgq_NoSeat => k_is)
    (case q_dhq_NoSeat => k_is)
    (case q_ddq_NoSeat => k_is)
    (case q_dnq_NoSeat_seat => k_is)
end
