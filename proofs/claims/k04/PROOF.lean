import PyProof.Rows.All
import Wide.All
import OpenK.AllK
import Wide.FinOn
import HandS.ForMost
import HandS.ForExc
import HandS.CallSlots
import HandS.Wide
import HandS.TupAny
import HandS.TupMul
import HandS.IsInst
import HandS.NoneIn
import HandS.Style
import HandS.Deep
import HandS.Conv
import HandS.Zip
import HandS.Walk
import HandS.Flow
import KE.SortData
import PyProof.ReprRoads
import PyProof.CallFns
import HandS.Ends
import HandS.SetFor
import KE.KUnpackStar
import HandS.DictComp
import HandS.WordsExc
import KE.GoesMore
import HandS.More
import KE.DataMinMax
import KE.DataFind
import KE.KTupSum
import KE.KDictSum
import KE.KDictCopyH
import PyProof.Rows.CallKwBuiltin
import KE.KRevSl
import HandS.ReCall
import HandS.SortKw
import KE.GoesEnumKw
import KE.KxText
import PyProof.ReprLen
import PySem.Challenge.RW_comeright_k04_what_terms_come_to
set_option Elab.async false
set_option linter.all false
set_option maxRecDepth 100000
section
/-! DL1: data over the hand layer: values as trees, a store of what may change, what an expression or a statement comes to. -/
namespace DL
open PySem PySem.Spec PyProof.Rows L2

/-- a value: data; an object of the store; a thing of the module by its name -/
inductive D where
  | pd (x : PyData)
  | ref (n : Nat)
  | glob (x : Str)
  | xt (ds : List PyData)
abbrev D.non : D := .pd .none
abbrev D.bl (b : Bool) : D := .pd (.bool b)
abbrev D.int (i : Int) : D := .pd (.int i)
abbrev D.str (x : Str) : D := .pd (.str x)
abbrev D.tup (xs : List PyData) : D := .pd (.tuple xs)
abbrev D.lst (xs : List PyData) : D := .pd (.list xs)
instance : Inhabited D := ⟨.non⟩
/-- an object that may change -/
inductive Ob where
  | lst (xs : List D)
  | dct (kvs : List (Key × D))
  | dtt (kvs : List (List Key × D))
  | ins (C : Str) (fs : List (Str × D))
abbrev Sto := List Ob
inductive ECls where
  | own (x : Str)
  | bt (n : String)
structure Exn where
  cls : ECls
  fs : List (Str × D)
inductive Out (α : Type) where
  | ok (a : α) (S : Sto)
  | exc (e : Exn) (σ : List (Option D)) (S : Sto)
  | stuck
abbrev Sl := List (Option D)
abbrev DM (α : Type) := Sl → Sto → Out α
def Out.bind {α β : Type} : Out α → (α → Sto → Out β) → Out β
  | .ok a S, f => f a S
  | .exc e σ S, _ => .exc e σ S
  | .stuck, _ => .stuck
@[simp] theorem Out.bind_ok {α β : Type} (a : α) (S : Sto) (f : α → Sto → Out β) : (Out.ok a S).bind f = f a S := rfl
@[simp] theorem Out.bind_exc {α β : Type} (e : Exn) (σ : Sl) (S : Sto) (f : α → Sto → Out β) : (Out.exc e σ S : Out α).bind f = .exc e σ S := rfl
@[simp] theorem Out.bind_stuck {α β : Type} (f : α → Sto → Out β) : (Out.stuck : Out α).bind f = .stuck := rfl

/-- the ground of a body: the written part, the module's names, what the callers may change, the heap at the entry, the objects handed in to be changed -/
structure G where
  K : PySem.W.Frag
  mg : Str → Option Value
  W : Addr → Prop
  H0 : Hp
  as : List Addr
def G.wr (g : G) (M : List Addr) (a : Addr) : Prop := g.W a ∨ a ∈ M

/-! ### what data a value is -/
mutual
inductive Dz (K : PySem.W.Frag) (W : Addr → Prop) (H : Hp) : V → PyData → Prop
  | non : Dz K W H .non .none
  | bl (b : Bool) : Dz K W H (.bl b) (.bool b)
  | int (i : Int) : Dz K W H (.int i) (.int i)
  | str (x : Str) : Dz K W H (.str x) (.str x)
  | lst {a : Addr} {xs : List V} {ds : List PyData} : ¬ W a → Rd H a (.lst xs) → DzAll K W H xs ds → Dz K W H (.ref a) (.list ds)
  | tup {a : Addr} {xs : List V} {ds : List PyData} : SqT K H a xs → DzAll K W H xs ds → Dz K W H (.ref a) (.tuple ds)
  | dct {a : Addr} {kvs : List (Key × V)} {ks ds : List PyData} : ¬ W a → Rd H a (.dK kvs) → DzAll K W H (kvs.map fun p => kV p.1) ks → DzAll K W H (kvs.map (·.2)) ds → Dz K W H (.ref a) (.dict (ks.zip ds))
inductive DzAll (K : PySem.W.Frag) (W : Addr → Prop) (H : Hp) : List V → List PyData → Prop
  | nil : DzAll K W H [] []
  | cons {v : V} {vs : List V} {d : PyData} {ds : List PyData} : Dz K W H v d → DzAll K W H vs ds → DzAll K W H (v :: vs) (d :: ds)
end
section
variable {K : PySem.W.Frag} {W W' : Addr → Prop} {H H' : Hp}
theorem Rd.keep {a : Addr} {u : HO} (r : Rd H a u) (k : ∀ o, H a = some o → H' a = some o) : Rd H' a u := by
  rcases r with r | ⟨o, r⟩
  · exact .inl (k _ r)
  · exact .inr ⟨o, k _ r⟩
theorem Rd.there {a : Addr} {u : HO} (r : Rd H a u) : ∃ o, H a = some o := by
  rcases r with r | ⟨o, r⟩
  · exact ⟨_, r⟩
  · exact ⟨_, r⟩
theorem SqT.keep {a : Addr} {xs : List V} (h : SqT K H a xs) (k : ∀ ys, (H a = some (.tup ys) ∨ ∃ o, H a = some (.frz o (.tup ys))) → ∀ o, H a = some o → H' a = some o) : SqT K H' a xs := by
  rcases h with h | h
  · exact .inl (Rd.keep h (k xs h))
  · exact .inr h
/-- what was not to be changed is as it was; nothing that was fixed is now to be changed -/
structure Kp (W W' : Addr → Prop) (H H' : Hp) : Prop where
  keep : ∀ a o, H a = some o → ¬ W a → H' a = some o
  fixed : ∀ a o, H a = some o → ¬ W a → ¬ W' a
  tups : ∀ a, W a → ∀ xs, H a ≠ some (.tup xs) ∧ ∀ o, H a ≠ some (.frz o (.tup xs))
mutual
theorem Dz.keep (k : Kp W W' H H') : ∀ {d : PyData} {v : V}, Dz K W H v d → Dz K W' H' v d
  | _, _, .non => .non
  | _, _, .bl b => .bl b
  | _, _, .int i => .int i
  | _, _, .str x => .str x
  | _, _, .lst nw r ha => by
      obtain ⟨o, e⟩ := Rd.there r
      exact .lst (k.fixed _ o e nw) (Rd.keep r fun o e => k.keep _ o e nw) (DzAll.keep k ha)
  | _, _, .tup r ha => by
      refine .tup (SqT.keep r fun ys e o e' => k.keep _ o e' fun w => ?_) (DzAll.keep k ha)
      rcases e with e | ⟨o2, e⟩
      · exact (k.tups _ w ys).1 e
      · exact (k.tups _ w ys).2 o2 e
  | _, _, .dct nw r h1 h2 => by
      obtain ⟨o, e⟩ := Rd.there r
      exact .dct (k.fixed _ o e nw) (Rd.keep r fun o e => k.keep _ o e nw) (DzAll.keep k h1) (DzAll.keep k h2)
theorem DzAll.keep (k : Kp W W' H H') : ∀ {ds : List PyData} {vs : List V}, DzAll K W H vs ds → DzAll K W' H' vs ds
  | _, _, .nil => .nil
  | _, _, .cons h1 h2 => .cons (Dz.keep k h1) (DzAll.keep k h2)
end
end
end DL
end
section
namespace DL
open PySem PySem.Spec PyProof.Rows L2

/-- what a value of the language is here: M tells where the store's objects stand -/
inductive Den (g : G) (M : List Addr) (H : Hp) : D → V → Prop
  | pd {d : PyData} {v : V} : Dz g.K (g.wr M) H v d → Den g M H (.pd d) v
  | ref {n : Nat} {a : Addr} : M[n]? = some a → Den g M H (.ref n) (.ref a)
  | glob {x : Str} {a : Addr} : g.mg x = some (.ref a) → Den g M H (.glob x) (.ref a)
  | xt {ds : List PyData} {a : Addr} {vs : List V} {o : Obj} : H a = some (.frz o (.tup vs)) → o.dict = none → DzAll g.K (g.wr M) H vs ds → Den g M H (.xt ds) (.ref a)
abbrev Dens (g : G) (M : List Addr) (H : Hp) : List D → List V → Prop := Paired (Den g M H)
def NT (o : HO) : Prop := (∀ xs, o ≠ .tup xs) ∧ ∀ ob xs, o ≠ .frz ob (.tup xs)
inductive ObDen (g : G) (M : List Addr) (H : Hp) (a : Addr) : Ob → Prop
  | lst {ds : List D} {vs : List V} : H a = some (.lst vs) → Dens g M H ds vs → ObDen g M H a (.lst ds)
  | dct {kvs : List (Key × D)} {ws : List (Key × V)} : H a = some (.dK ws) → Paired (fun p q => p.1 = q.1 ∧ Den g M H p.2 q.2) kvs ws → ObDen g M H a (.dct kvs)
  | dtt {kvs : List (List Key × D)} {ws : List (List Key × V)} : H a = some (.dT ws) → Paired (fun p q => p.1 = q.1 ∧ Den g M H p.2 q.2) kvs ws → ObDen g M H a (.dtt kvs)
  | ins {C : Str} {Ca dx : Addr} {fs : List (Str × D)} {ws : List (Str × V)} : g.mg C = some (.ref Ca) → H a = some (.ins Ca dx ws) → Paired (fun p q => p.1 = q.1 ∧ Den g M H p.2 q.2) fs ws → ObDen g M H a (.ins C fs)
structure RepS (g : G) (M : List Addr) (S : Sto) (H : Hp) : Prop where
  nd : M.Nodup
  pre : g.as <+: M
  obs : Paired (fun ob a => ObDen g M H a ob) S M
  fresh : ∀ a ∈ M, a ∉ g.as → g.H0 a = none
  own : ∀ a ∈ M, a ∉ g.as → ¬ g.W a
  keep : ∀ a o, g.H0 a = some o → a ∉ g.as → H a = some o
  amb : ∀ a, g.W a → ∃ o, H a = some o ∧ NT o
  asW : ∀ a ∈ g.as, g.W a
structure Ext (g : G) (M : List Addr) (H : Hp) (M' : List Addr) (H' : Hp) : Prop where
  pre : M <+: M'
  new : ∀ a ∈ M', a ∉ M → H a = none
  keep : ∀ a o, H a = some o → a ∉ M → H' a = some o
  there : ∀ a o, H a = some o → ∃ o', H' a = some o'
section
variable {g : G} {M M' M'' : List Addr} {H H' H'' : Hp} {S : Sto}
theorem Ext.refl : Ext g M H M H := ⟨List.prefix_refl _, fun _ h n => absurd h n, fun _ _ e _ => e, fun _ o e => ⟨o, e⟩⟩
theorem mem_pre {a : Addr} {l l' : List Addr} (p : l <+: l') (h : a ∈ l) : a ∈ l' := p.subset h
theorem Ext.trans (x : Ext g M H M' H') (y : Ext g M' H' M'' H'') : Ext g M H M'' H'' where
  pre := x.pre.trans y.pre
  new := fun a h n => by
    by_cases h' : a ∈ M'
    · exact x.new a h' n
    · cases e : H a with
      | none => rfl
      | some o =>
        obtain ⟨o', e'⟩ := x.there a o e
        have := y.new a h h'
        rw [e'] at this; cases this
  keep := fun a o e n => y.keep a o (x.keep a o e n) fun h => by
    have := x.new a h n
    rw [e] at this; cases this
  there := fun a o e => let ⟨o', e'⟩ := x.there a o e; y.there a o' e'
theorem ObDen.there {a : Addr} {ob : Ob} (h : ObDen g M H a ob) : ∃ o, H a = some o ∧ NT o := by
  cases h with
  | lst e _ => exact ⟨_, e, fun _ => by simp, fun _ _ => by simp⟩
  | dct e _ => exact ⟨_, e, fun _ => by simp, fun _ _ => by simp⟩
  | dtt e _ => exact ⟨_, e, fun _ => by simp, fun _ _ => by simp⟩
  | ins _ e _ => exact ⟨_, e, fun _ => by simp, fun _ _ => by simp⟩
theorem Paired.mem_right {α β : Type} {F : α → β → Prop} : ∀ {l : List α} {l' : List β}, Paired F l l' → ∀ b ∈ l', ∃ a ∈ l, F a b
  | _, _, .nil, _, h => by cases h
  | _, _, .cons r t, b, h => by
    rcases List.mem_cons.mp h with rfl | h
    · exact ⟨_, List.mem_cons_self, r⟩
    · obtain ⟨a, ha, f⟩ := Paired.mem_right t b h
      exact ⟨a, List.mem_cons_of_mem _ ha, f⟩
theorem Paired.get {α β : Type} {F : α → β → Prop} : ∀ {l : List α} {l' : List β}, Paired F l l' → ∀ {i : Nat} {a : α}, l[i]? = some a → ∃ b, l'[i]? = some b ∧ F a b
  | _, _, .nil, i, _, h => by simp at h
  | _, _, .cons r t, 0, _, h => by
    simp at h; subst h
    exact ⟨_, by simp, r⟩
  | _, _, .cons r t, i + 1, _, h => by
    obtain ⟨b, e, f⟩ := Paired.get t (i := i) (by simpa using h)
    exact ⟨b, by simpa using e, f⟩
theorem Paired.getR {α β : Type} {F : α → β → Prop} : ∀ {l : List α} {l' : List β}, Paired F l l' → ∀ {i : Nat} {b : β}, l'[i]? = some b → ∃ a, l[i]? = some a ∧ F a b
  | _, _, .nil, i, _, h => by simp at h
  | _, _, .cons r t, 0, _, h => by
    simp at h; subst h
    exact ⟨_, by simp, r⟩
  | _, _, .cons r t, i + 1, _, h => by
    obtain ⟨b, e, f⟩ := Paired.getR t (i := i) (by simpa using h)
    exact ⟨b, by simpa using e, f⟩
theorem Paired.imp {α β : Type} {F F' : α → β → Prop} : ∀ {l : List α} {l' : List β}, Paired F l l' → (∀ a b, F a b → F' a b) → Paired F' l l'
  | _, _, .nil, _ => .nil
  | _, _, .cons r t, f => .cons (f _ _ r) (Paired.imp t f)
theorem Paired.app {α β : Type} {F : α → β → Prop} : ∀ {l m : List α} {l' m' : List β}, Paired F l l' → Paired F m m' → Paired F (l ++ m) (l' ++ m')
  | _, _, _, _, .nil, h => h
  | _, _, _, _, .cons r t, h => .cons r (Paired.app t h)
theorem Paired.setR {α β : Type} {F : α → β → Prop} {a : α} {b : β} (f : F a b) : ∀ {l : List α} {l' : List β}, Paired F l l' → ∀ (i : Nat), Paired F (l.set i a) (l'.set i b)
  | _, _, .nil, _ => .nil
  | _, _, .cons r t, 0 => .cons f t
  | _, _, .cons r t, i + 1 => .cons r (Paired.setR f t i)
theorem Paired.len {α β : Type} {F : α → β → Prop} : ∀ {l : List α} {l' : List β}, Paired F l l' → l.length = l'.length
  | _, _, .nil => rfl
  | _, _, .cons _ t => by rw [List.length_cons, List.length_cons, Paired.len t]
theorem RepS.there (r : RepS g M S H) {a : Addr} (h : a ∈ M) : ∃ o, H a = some o ∧ NT o := by
  obtain ⟨ob, _, d⟩ := Paired.mem_right r.obs a h
  exact d.there
theorem RepS.wr_there (r : RepS g M S H) {a : Addr} (h : g.wr M a) : ∃ o, H a = some o ∧ NT o := by
  rcases h with h | h
  · exact r.amb a h
  · exact r.there h
/-- data stays what it is -/
theorem kp (r : RepS g M S H) (x : Ext g M H M' H') : Kp (g.wr M) (g.wr M') H H' where
  keep := fun a o e n => x.keep a o e fun h => n (.inr h)
  fixed := fun a o e n h => by
    rcases h with h | h
    · exact n (.inl h)
    · have := x.new a h fun h' => n (.inr h')
      rw [e] at this; cases this
  tups := fun a w xs => by
    obtain ⟨o, e, nt⟩ := r.wr_there w
    exact ⟨fun q => by rw [e] at q; cases q; exact nt.1 xs rfl, fun o' q => by rw [e] at q; cases q; exact nt.2 o' xs rfl⟩
theorem Den.ext (r : RepS g M S H) (x : Ext g M H M' H') {d : D} {v : V} (h : Den g M H d v) : Den g M' H' d v := by
  cases h with
  | pd h => exact .pd (h.keep (kp r x))
  | ref h =>
    obtain ⟨t, rfl⟩ := x.pre
    exact .ref (by rw [List.getElem?_append_left (List.getElem?_eq_some_iff.mp h).1]; exact h)
  | glob h => exact .glob h
  | xt h hd z =>
    have k := kp r x
    exact .xt (k.keep _ _ h fun w => (k.tups _ w _).2 _ h) hd (z.keep k)
theorem Dens.ext (r : RepS g M S H) (x : Ext g M H M' H') {ds : List D} {vs : List V} (h : Dens g M H ds vs) : Dens g M' H' ds vs := Paired.imp h fun _ _ d => d.ext r x
theorem wr_asc {M : List Addr} {a : Addr} : g.wr M a ↔ g.W a ∨ a ∈ M := Iff.rfl

/-- a new object that stays as it is -/
theorem Ext.new1 {p : Addr} {o : HO} (n : H p = none) : Ext g M H M (upd H p o) :=
  ⟨List.prefix_refl _, fun _ h n => absurd h n, fun a u e _ => by rw [upd_ne (ne_of_none e n)]; exact e, fun a u e => ⟨u, by rw [upd_ne (ne_of_none e n)]; exact e⟩⟩
theorem ObDen.ext (r : RepS g M S H) (x : Ext g M H M' H') {a : Addr} {ob : Ob} (h : ObDen g M H a ob) (k : ∀ o, H a = some o → H' a = some o) : ObDen g M' H' a ob := by
  cases h with
  | lst e d => exact .lst (k _ e) (d.ext r x)
  | dct e d => exact .dct (k _ e) (Paired.imp d fun _ _ q => ⟨q.1, q.2.ext r x⟩)
  | dtt e d => exact .dtt (k _ e) (Paired.imp d fun _ _ q => ⟨q.1, q.2.ext r x⟩)
  | ins c e d => exact .ins c (k _ e) (Paired.imp d fun _ _ q => ⟨q.1, q.2.ext r x⟩)
theorem RepS.new1 {p : Addr} {o : HO} (r : RepS g M S H) (n : H p = none) : RepS g M S (upd H p o) where
  nd := r.nd
  pre := r.pre
  obs := Paired.imp r.obs fun ob a d => d.ext r (Ext.new1 n) fun u e => by rw [upd_ne (ne_of_none e n)]; exact e
  fresh := r.fresh
  own := r.own
  keep := fun a u e na => by rw [upd_ne (ne_of_none (r.keep a u e na) n)]; exact r.keep a u e na
  amb := fun a w => let ⟨u, e, nt⟩ := r.amb a w; ⟨u, by rw [upd_ne (ne_of_none e n)]; exact e, nt⟩
  asW := r.asW
/-- a new address is nobody's -/
theorem RepS.free (r : RepS g M S H) {p : Addr} (n : H p = none) : ¬ g.wr M p := fun w => by
  obtain ⟨o, e, _⟩ := r.wr_there w
  rw [n] at e; cases e
/-- a new object of the store -/
theorem Ext.newM {p : Addr} {o : HO} (n : H p = none) : Ext g M H (M ++ [p]) (upd H p o) :=
  ⟨List.prefix_append _ _, fun a h na => by
    rcases List.mem_append.mp h with h | h
    · exact absurd h na
    · have e : a = p := by simpa using h
      rw [e]; exact n, fun a u e _ => by rw [upd_ne (ne_of_none e n)]; exact e, fun a u e => ⟨u, by rw [upd_ne (ne_of_none e n)]; exact e⟩⟩
theorem RepS.newM {p : Addr} {o : HO} {ob : Ob} (r : RepS g M S H) (n : H p = none) (h : ObDen g (M ++ [p]) (upd H p o) p ob) (h0 : ∀ u, g.H0 p = some u → False) : RepS g (M ++ [p]) (S ++ [ob]) (upd H p o) where
  nd := by
    rw [List.nodup_append]
    refine ⟨r.nd, by simp, fun a ha b hb e => ?_⟩
    have e2 : b = p := by simpa using hb
    subst e e2
    exact r.free n (.inr ha)
  pre := r.pre.trans (List.prefix_append _ _)
  obs := Paired.app (Paired.imp r.obs fun ob a d => d.ext r (Ext.newM n) fun u e => by rw [upd_ne (ne_of_none e n)]; exact e) (.cons h .nil)
  fresh := fun a h na => by
    rcases List.mem_append.mp h with h | h
    · exact r.fresh a h na
    · have e : a = p := by simpa using h
      subst e
      cases q : g.H0 a with
      | none => rfl
      | some u => exact (h0 u q).elim
  own := fun a h na => by
    rcases List.mem_append.mp h with h | h
    · exact r.own a h na
    · have e : a = p := by simpa using h
      subst e
      exact fun w => r.free n (.inl w)
  keep := fun a u e na => by rw [upd_ne (ne_of_none (r.keep a u e na) n)]; exact r.keep a u e na
  amb := fun a w => let ⟨u, e, nt⟩ := r.amb a w; ⟨u, by rw [upd_ne (ne_of_none e n)]; exact e, nt⟩
  asW := r.asW
theorem RepS.h0 (r : RepS g M S H) {p : Addr} (n : H p = none) : ∀ u, g.H0 p = some u → False := fun u e => by
  by_cases h : p ∈ g.as
  · obtain ⟨o, q, _⟩ := r.amb p (r.asW p h)
    rw [n] at q; cases q
  · have := r.keep p u e h
    rw [n] at this; cases this
/-- an object of the store is changed -/
theorem Ext.write {n : Nat} {a : Addr} {o : HO} (e : M[n]? = some a) : Ext g M H M (upd H a o) :=
  ⟨List.prefix_refl _, fun _ h n => absurd h n, fun b u q nb => by
    rw [upd_ne (show b ≠ a from fun z => nb (by rw [z]; exact List.mem_of_getElem? e))]; exact q, fun b u q => by
    by_cases z : b = a
    · subst z; exact ⟨o, upd_same⟩
    · exact ⟨u, by rw [upd_ne z]; exact q⟩⟩
theorem RepS.write {n : Nat} {a : Addr} {o : HO} {ob : Ob} (r : RepS g M S H) (e : M[n]? = some a) (nt : NT o) (h : ObDen g M (upd H a o) a ob) : RepS g M (S.set n ob) (upd H a o) where
  nd := r.nd
  pre := r.pre
  obs := by
    have x : Ext g M H M (upd H a o) := Ext.write e
    have key : ∀ (S : Sto) (L : List Addr) (n : Nat), L.Nodup → L[n]? = some a → Paired (fun ob b => ObDen g M H b ob) S L → Paired (fun ob b => ObDen g M (upd H a o) b ob) (S.set n ob) L := by
      intro S L n nd e q
      induction q generalizing n with
      | nil => exact .nil
      | @cons b c bs cs r1 t ih =>
        have nd' := List.nodup_cons.mp nd
        cases n with
        | zero =>
          simp at e
          subst e
          refine .cons h ?_
          clear ih
          have : ∀ (bs : Sto) (cs : List Addr), c ∉ cs → Paired (fun ob b => ObDen g M H b ob) bs cs → Paired (fun ob b => ObDen g M (upd H c o) b ob) bs cs := by
            intro bs cs hn q
            induction q with
            | nil => exact .nil
            | @cons b' c' _ _ r2 _ ih2 =>
              exact .cons (r2.ext r x fun u e => by rw [upd_ne (show c' ≠ c from fun z => hn (by rw [z]; exact List.mem_cons_self))]; exact e) (ih2 fun z => hn (List.mem_cons_of_mem _ z))
          exact this bs cs nd'.1 t
        | succ n =>
          simp at e
          refine .cons (r1.ext r x fun u e' => ?_) (ih n nd'.2 e)
          rw [upd_ne (show c ≠ a from fun z => nd'.1 (by rw [z]; exact List.mem_of_getElem? e))]; exact e'
    exact key S M n r.nd e r.obs
  fresh := r.fresh
  own := r.own
  keep := fun b u q na => by
    rw [upd_ne ?_]
    · exact r.keep b u q na
    · intro z
      subst z
      have := r.fresh b (List.mem_of_getElem? e) na
      rw [q] at this; cases this
  amb := fun b w => by
    by_cases z : b = a
    · subst z; exact ⟨o, upd_same, nt⟩
    · obtain ⟨u, q, nt⟩ := r.amb b w
      exact ⟨u, by rw [upd_ne z]; exact q, nt⟩
  asW := r.asW
theorem RepS.ob (r : RepS g M S H) {n : Nat} {ob : Ob} (e : S[n]? = some ob) : ∃ a, M[n]? = some a ∧ ObDen g M H a ob := Paired.get r.obs e
end
end DL
end
section
namespace DL
open PySem PySem.Spec PyProof.Rows L2
abbrev St := L2.St

def ClsIs (g : G) : ECls → Value → Prop
  | .own x, c => ∃ C, g.mg x = some (.ref C) ∧ c = .ref C
  | .bt n, c => c = .type n
inductive ExDen (g : G) (L : List Addr) (H : Hp) (e : Exn) : Value → Option Addr → Prop
  | none {c : Value} : ClsIs g e.cls c → e.fs = [] → ExDen g L H e c none
  | some {c : Value} {d : Addr} {ws : List (Str × V)} : ClsIs g e.cls c → H d = some (.xd ws) → Paired (fun p q => p.1 = q.1 ∧ Den g L H p.2 q.2) e.fs ws → ExDen g L H e c (some d)
def SlDen (g : G) (L : List Addr) (H : Hp) (σd : Sl) (σ : L2.St) : Prop := ∀ (i : Nat) (d : D), σd[i]? = some (some d) → ∃ v, σ[i]? = some (some v) ∧ Den g L H d v
/-- what an outcome is to bring -/
def Ev (g : G) (E : WX) (L : List Addr) (H : Hp) {α : Type} : Out α → (α → Sto → List Addr → Hp → Prop) → Prop
  | .ok a S', P => ∀ L' H', Ext g L H L' H' → RepS g L' S' H' → P a S' L' H'
  | .exc e σd S', _ => ∀ L' H' c x σ, Ext g L H L' H' → RepS g L' S' H' → SlDen g L' H' σd σ → ExDen g L' H' e c x → E c x σ H'
  | .stuck, _ => False
def PV (g : G) (Q : VK) : D → Sto → List Addr → Hp → Prop := fun d _ L H => ∀ v, Den g L H d v → Q v H
def PB (Q : Bool → Hp → Prop) : Bool → Sto → List Addr → Hp → Prop := fun b _ _ H => Q b H
def PL (g : G) (Q : List V → Hp → Prop) : List D → Sto → List Addr → Hp → Prop := fun d _ L H => ∀ v, Dens g L H d v → Q v H
inductive Fl where
  | next (σ : Sl)
  | ret (d : D)
  | brk (σ : Sl)
  | cont (σ : Sl)
def PF (g : G) (D : Ends) : Fl → Sto → List Addr → Hp → Prop
  | .next σd, _, L, H => ∀ σ, SlDen g L H σd σ → D.nx σ H
  | .brk σd, _, L, H => ∀ σ, SlDen g L H σd σ → D.bk σ H
  | .cont σd, _, L, H => ∀ σ, SlDen g L H σd σ → D.ct σ H
  | .ret d, _, L, H => ∀ v, Den g L H d v → D.rt v H
def PSl (g : G) (Q : St → Hp → Prop) : Sl → Sto → List Addr → Hp → Prop := fun σd _ L H => ∀ σ, SlDen g L H σd σ → Q σ H
/-- the readings by data -/
def T (g : G) (E : WX) (m : DM D) : TE := fun σ H Q => ∃ L σd S, RepS g L S H ∧ SlDen g L H σd σ ∧ Ev g E L H (m σd S) (PV g Q)
def TB (g : G) (E : WX) (m : DM Bool) : TT := fun σ H Q => ∃ L σd S, RepS g L S H ∧ SlDen g L H σd σ ∧ Ev g E L H (m σd S) (PB Q)
def TL (g : G) (E : WX) (m : DM (List D)) : TA := fun σ H Q => ∃ L σd S, RepS g L S H ∧ SlDen g L H σd σ ∧ Ev g E L H (m σd S) (PL g Q)
def TSt (g : G) (E : WX) (m : DM Fl) : TS := fun D σ H => ∃ L σd S, RepS g L S H ∧ SlDen g L H σd σ ∧ Ev g E L H (m σd S) (PF g D)
def TTg (g : G) (E : WX) (f : D → DM Sl) : TG := fun v σ H Q => ∃ L σd S, RepS g L S H ∧ SlDen g L H σd σ ∧ ∃ d, Den g L H d v ∧ Ev g E L H (f d σd S) (PSl g Q)
def TTgs (g : G) (E : WX) (f : List D → DM Sl) : TGs := fun vs σ H Q => ∃ L σd S, RepS g L S H ∧ SlDen g L H σd σ ∧ ∃ ds, Dens g L H ds vs ∧ Ev g E L H (f ds σd S) (PSl g Q)

theorem PE.imp {X : Cx} {e : Expr} {t t' : TE} (h : PE X e t) (i : ∀ σ H Q, t' σ H Q → t σ H Q) : PE X e t' := ⟨fun p s σ H Q I q => h.run p s σ H Q I (i σ H Q q)⟩
theorem PT.imp {X : Cx} {e : Expr} {t t' : TT} (h : PT X e t) (i : ∀ σ H Q, t' σ H Q → t σ H Q) : PT X e t' := ⟨fun p s σ H Q I q => h.run p s σ H Q I (i σ H Q q)⟩
theorem PW.imp {X : Cx} {e : Expr} {t t' : TT} (h : PW X e t) (i : ∀ σ H Q, t' σ H Q → t σ H Q) : PW X e t' := ⟨fun w p s σ H Q I q => h.run w p s σ H Q I (i σ H Q q)⟩
theorem PA.imp {X : Cx} {e : List Expr} {t t' : TA} (h : PA X e t) (i : ∀ σ H Q, t' σ H Q → t σ H Q) : PA X e t' := ⟨fun w p s σ H Q I q => h.run w p s σ H Q I (i σ H Q q)⟩
theorem PS.imp {X : Cx} {e : Stmt} {t t' : TS} (h : PS X e t) (i : ∀ D σ H, t' D σ H → t D σ H) : PS X e t' := ⟨fun p s σ H D I q => h.run p s σ H D I (i D σ H q)⟩
theorem PSs.imp {X : Cx} {e : List Stmt} {t t' : TS} (h : PSs X e t) (i : ∀ D σ H, t' D σ H → t D σ H) : PSs X e t' := ⟨fun p s σ H D I q => h.run p s σ H D I (i D σ H q)⟩
theorem PG.imp {X : Cx} {e : Expr} {t t' : TG} (h : PG X e t) (i : ∀ v σ H Q, t' v σ H Q → t v σ H Q) : PG X e t' := ⟨fun p s σ H v u Q I r q => h.run p s σ H v u Q I r (i v σ H Q q)⟩
theorem PGs.imp {X : Cx} {e : List Expr} {t t' : TGs} (h : PGs X e t) (i : ∀ v σ H Q, t' v σ H Q → t v σ H Q) : PGs X e t' := ⟨fun p s σ H v u Q I r q => h.run p s σ H v u Q I r (i v σ H Q q)⟩

/-! ### one after another -/
def mBind {α β : Type} (m : DM α) (f : α → DM β) : DM β := fun σ S => (m σ S).bind fun a S' => f a σ S'
def mRet {α : Type} (a : α) : DM α := fun _ S => .ok a S
def mStuck {α : Type} : DM α := fun _ _ => .stuck
def ofO {α : Type} (o : Option α) (S : Sto) : Out α := match o with
  | some d => .ok d S
  | none => .stuck
section
variable {α β : Type} {g : G} {E : WX} {L L' L'' : List Addr} {H H' H'' : Hp} {S S' : Sto} {σd : Sl} {σ : St}
theorem SlDen.ext (r : RepS g L S H) (x : Ext g L H L' H') (h : SlDen g L H σd σ) : SlDen g L' H' σd σ := fun i d e =>
  let ⟨v, e', q⟩ := h i d e
  ⟨v, e', q.ext r x⟩
theorem Ev.imp {o : Out α} {P P' : α → Sto → List Addr → Hp → Prop} (h : Ev g E L H o P) (i : ∀ a S' L' H', Ext g L H L' H' → RepS g L' S' H' → P a S' L' H' → P' a S' L' H') : Ev g E L H o P' := by
  cases o with
  | ok a S => exact fun L' H' x r => i a S L' H' x r (h L' H' x r)
  | exc e σ S => exact h
  | stuck => exact h
theorem Ev.of {o : Out α} {P : α → Sto → List Addr → Hp → Prop} (x : Ext g L H L' H') (h : Ev g E L H o P) : Ev g E L' H' o P := by
  cases o with
  | ok a S => exact fun L2 H2 y r => h L2 H2 (x.trans y) r
  | exc e σ S => exact fun L2 H2 c z σ y r s d => h L2 H2 c z σ (x.trans y) r s d
  | stuck => exact h
theorem Ev.bind {m : Out α} {f : α → Sto → Out β} {P : β → Sto → List Addr → Hp → Prop} (h : Ev g E L H (m.bind f) P) : Ev g E L H m (fun a S' L' H' => Ev g E L' H' (f a S') P) := by
  cases m with
  | ok a S => exact fun L' H' x r => Ev.of x h
  | exc e σ S => exact h
  | stuck => exact h
/-- the first part run, then the rest at the state behind -/
theorem Ev.step {m : DM α} {f : α → DM β} {P : β → Sto → List Addr → Hp → Prop} {P' : α → Sto → List Addr → Hp → Prop} (h : Ev g E L H (mBind m f σd S) P)
    (i : ∀ a S' L' H', Ext g L H L' H' → RepS g L' S' H' → Ev g E L' H' (f a σd S') P → P' a S' L' H') : Ev g E L H (m σd S) P' := (Ev.bind h).imp i
theorem Ev.ok {a : α} {P : α → Sto → List Addr → Hp → Prop} (h : Ev g E L H (.ok a S) P) (r : RepS g L S H) : P a S L H := h L H Ext.refl r

/-! ### names, constants -/
def eVar (i : Nat) : DM D := fun σ S => match σ[i]? with
  | some (some d) => .ok d S
  | _ => .stuck
def eK (d : D) : DM D := fun _ S => .ok d S
variable {X : Cx} {pos : Pos}
theorem pd_var (i : Nat) {x : Str} (hN : X.N[i]? = some x := by rfl) (hv : Vis X.env.scope x := by first | exact Or.inl rfl | exact Or.inr (Or.inl rfl) | exact Or.inr (Or.inr rfl)) (hd : (x == ("__debug__" : Str)) = false := by decide)
    (hcd : (x == ("__classdict__" : Str)) = false := by decide) : PE X (.Name x pos) (T g E (eVar i)) :=
  PE.imp (pe_var hN hv hd hcd) fun σ H Q ⟨L, σd, S, r, sl, ev⟩ => by
    unfold eVar at ev
    split at ev
    · rename_i d e
      obtain ⟨v, e', dn⟩ := sl i d e
      exact ⟨v, e', ev.ok r v dn⟩
    · exact ev.elim
theorem pd_int {i : Int} {j} : PE X (.Constant (.int i) j pos) (T g E (eK (.int i))) := PE.imp pe_int fun σ H Q ⟨L, σd, S, r, sl, ev⟩ => ev.ok r _ (.pd (.int i))
theorem pd_bl {b j} : PE X (.Constant (.bool b) j pos) (T g E (eK (.bl b))) := PE.imp pe_bl fun σ H Q ⟨L, σd, S, r, sl, ev⟩ => ev.ok r _ (.pd (.bl b))
theorem pd_str {b j} : PE X (.Constant (.str b) j pos) (T g E (eK (.str b))) := PE.imp pe_str fun σ H Q ⟨L, σd, S, r, sl, ev⟩ => ev.ok r _ (.pd (.str b))
theorem pd_non {j} : PE X (.Constant .none j pos) (T g E (eK .non)) := PE.imp pe_non fun σ H Q ⟨L, σd, S, r, sl, ev⟩ => ev.ok r _ (.pd .non)
/-- a module's int -/
theorem pd_globI {x : Str} {i : Int} (hg : Gl X x) (hm : ∃ t, X.mg x = some (.int i t)) (hd : (x == ("__debug__" : Str)) = false := by decide) : PE X (.Name x pos) (T g E (eK (.int i))) := by
  obtain ⟨t, hm⟩ := hm
  exact PE.imp (pe_glob (v := .int i) hg hm ⟨t, rfl⟩ hd) fun σ H Q ⟨L, σd, S, r, sl, ev⟩ => ev.ok r _ (.pd (.int i))
theorem pd_globS {x : Str} {i : Str} (hg : Gl X x) (hm : ∃ t, X.mg x = some (.str i t)) (hd : (x == ("__debug__" : Str)) = false := by decide) : PE X (.Name x pos) (T g E (eK (.str i))) := by
  obtain ⟨t, hm⟩ := hm
  exact PE.imp (pe_glob (v := .str i) hg hm ⟨t, rfl⟩ hd) fun σ H Q ⟨L, σd, S, r, sl, ev⟩ => ev.ok r _ (.pd (.str i))
/-- a module's constant that is data of the written part -/
theorem pd_globD {x : Str} {d : PyData} {u : Value} {v : V} (hg : Gl X x) (hm : X.mg x = some u) (rv : RelV v u) (hd : ∀ W H, Dz g.K W H v d) (hdb : (x == ("__debug__" : Str)) = false := by decide) : PE X (.Name x pos) (T g E (eK (.pd d))) :=
  PE.imp (pe_glob (v := v) hg hm rv hdb) fun σ H Q ⟨L, σd, S, r, sl, ev⟩ => ev.ok r _ (.pd (hd _ _))
/-- a def or a class of the module as a value -/
theorem pd_globF {x : Str} {a : Addr} (hg : Gl X x) (hm : X.mg x = some (.ref a)) (hgm : g.mg x = some (.ref a)) (hd : (x == ("__debug__" : Str)) = false := by decide) : PE X (.Name x pos) (T g E (eK (.glob x))) :=
  PE.imp (pe_glob (v := .ref a) hg hm rfl hd) fun σ H Q ⟨L, σd, S, r, sl, ev⟩ => ev.ok r _ (.glob hgm)

/-! ### operators -/
/-- a two-place operation by data -/
def OpD (X : Cx) (g : G) (f : Value → Value → Sem Value) (op : D → D → Sto → Out D) : Prop :=
  ∃ r : R2, OpR X f r ∧ ∀ (E : WX) L S H x y dx dy Q, RepS g L S H → Den g L H dx x → Den g L H dy y → Ev g E L H (op dx dy S) (PV g Q) → r x y H Q
def eOp (op : D → D → Sto → Out D) (a b : DM D) : DM D := mBind a fun x => mBind b fun y => fun _ S => op x y S
variable {a b c : Expr} {ma mb mc : DM D}
theorem tOp_of {op : D → D → Sto → Out D} {r : R2} {Q : VK}
    (hs : ∀ (E : WX) L S H x y dx dy Q, RepS g L S H → Den g L H dx x → Den g L H dy y → Ev g E L H (op dx dy S) (PV g Q) → r x y H Q) (h : T g E (eOp op ma mb) σ H Q) : tOp r (T g E ma) (T g E mb) σ H Q := by
  obtain ⟨L, σd, S, rp, sl, ev⟩ := h
  refine ⟨L, σd, S, rp, sl, ev.step fun dx S1 L1 H1 x1 r1 ev1 x n1 => ?_⟩
  refine ⟨L1, σd, S1, r1, sl.ext rp x1, ev1.step fun dy S2 L2 H2 x2 r2 ev2 y n2 => ?_⟩
  exact hs E L2 S2 H2 x y dx dy Q r2 (n1.ext r1 x2) n2 ev2
theorem pd_op {op : Operator} {f : D → D → Sto → Out D} (ho : OpD X g (binaryOp op) f) (ha : PE X a (T g E ma)) (hb : PE X b (T g E mb)) : PE X (.BinOp a op b pos) (T g E (eOp f ma mb)) := by
  obtain ⟨r, hr, hs⟩ := ho
  exact PE.imp (pe_op hr ha hb) fun σ H Q h => tOp_of hs h
theorem pd_cmp {op : CmpOp} {f : D → D → Sto → Out D} (ho : OpD X g (compareOp op) f) (ha : PE X a (T g E ma)) (hb : PE X b (T g E mb)) (hm : behindInMarks op b = false) : PE X (.Compare a [op] [b] pos) (T g E (eOp f ma mb)) := by
  obtain ⟨r, hr, hs⟩ := ho
  exact PE.imp (pe_cmpR hr ha hb hm) fun σ H Q h => tOp_of hs h
/-- the value as a truth -/
def asB : D → DM Bool := fun d _ S => match d with
  | .pd (.bool b) => .ok b S
  | _ => .stuck
def eTest (m : DM D) : DM Bool := mBind m asB
theorem asB_ok {d : D} {v : V} {Q : Bool → Hp → Prop} (r : RepS g L S H) (dn : Den g L H d v) (ev : Ev g E L H (asB d σd S) (PB Q)) : ∃ k, v = .bl k ∧ Q k H := by
  unfold asB at ev
  split at ev
  · rename_i b
    cases dn with
    | pd dn =>
      cases dn
      exact ⟨b, rfl, ev.ok r⟩
  · exact ev.elim
theorem pt_cmpD {op : CmpOp} {f : D → D → Sto → Out D} (ho : OpD X g (compareOp op) f) (ha : PE X a (T g E ma)) (hb : PE X b (T g E mb)) (hm : behindInMarks op b = false) : PT X (.Compare a [op] [b] pos) (TB g E (eTest (eOp f ma mb))) := by
  obtain ⟨r, hr, hs⟩ := ho
  refine PT.imp (pt_cmpR hr ha hb hm) fun σ H Q h => ?_
  obtain ⟨L, σd, S, rp, sl, ev⟩ := h
  refine tOp_of (Q := fun x H' => ∃ k, x = .bl k ∧ Q k H') hs ⟨L, σd, S, rp, sl, ev.step fun d S' L' H' x r' ev' v dn => ?_⟩
  exact asB_ok r' dn ev'
end
end DL
end
section
namespace DL
open PySem PySem.Spec PyProof.Rows L2

/-! ### views -/
def pdL : List D → Option (List PyData)
  | [] => some []
  | .pd x :: r => (pdL r).map (x :: ·)
  | _ :: _ => none
def asL (S : Sto) : D → Option (List D)
  | .pd (.list xs) => some (xs.map .pd)
  | .ref n => match S[n]? with
    | some (.lst xs) => some xs
    | _ => none
  | _ => none
def asT : D → Option (List PyData)
  | .pd (.tuple xs) => some xs
  | _ => none
def asQ (S : Sto) (d : D) : Option (List D) := match d with
  | .pd (.tuple xs) => some (xs.map .pd)
  | d => asL S d
def view (S : Sto) : D → Option PyData
  | .pd x => some x
  | .ref n => match S[n]? with
    | some (.lst xs) => (pdL xs).map .list
    | _ => none
  | .glob _ => none
  | .xt _ => none
@[simp] theorem pdL_map : ∀ xs : List PyData, pdL (xs.map .pd) = some xs
  | [] => rfl
  | x :: xs => by rw [List.map_cons, pdL, pdL_map xs]; rfl
section
variable {g : G} {E : WX} {L L' : List Addr} {H H' : Hp} {S S' : Sto} {σd : Sl} {σ : St} {v : V} {d : D}
theorem den_int {i : Int} (h : Den g L H (.pd (.int i)) v) : v = .int i := by cases h with | pd h => cases h; rfl
theorem den_bl {i : Bool} (h : Den g L H (.pd (.bool i)) v) : v = .bl i := by cases h with | pd h => cases h; rfl
theorem den_str {i : Str} (h : Den g L H (.pd (.str i)) v) : v = .str i := by cases h with | pd h => cases h; rfl
theorem den_non (h : Den g L H (.pd .none) v) : v = .non := by cases h with | pd h => cases h; rfl
theorem den_tup {ds : List PyData} (h : Den g L H (.pd (.tuple ds)) v) : ∃ a vs, v = .ref a ∧ SqT g.K H a vs ∧ DzAll g.K (g.wr L) H vs ds := by
  cases h with | pd h => cases h with | tup a b => exact ⟨_, _, rfl, a, b⟩
theorem den_lst {ds : List PyData} (h : Den g L H (.pd (.list ds)) v) : ∃ a vs, v = .ref a ∧ Rd H a (.lst vs) ∧ DzAll g.K (g.wr L) H vs ds := by
  cases h with | pd h => cases h with | lst n a b => exact ⟨_, _, rfl, a, b⟩
theorem DzAll.dens : ∀ {ds : List PyData} {vs : List V}, DzAll g.K (g.wr L) H vs ds → Dens g L H (ds.map .pd) vs
  | _, _, .nil => .nil
  | _, _, .cons h1 h2 => .cons (.pd h1) (DzAll.dens h2)
theorem dens_dz : ∀ {ds : List PyData} {vs : List V}, Dens g L H (ds.map .pd) vs → DzAll g.K (g.wr L) H vs ds
  | [], _, h => by cases h; exact .nil
  | d :: ds, _, h => by
    cases h with
    | cons h1 h2 => cases h1 with | pd h1 => exact .cons h1 (dens_dz h2)
theorem pdL_eq : ∀ {ds : List D} {xs : List PyData}, pdL ds = some xs → ds = xs.map .pd
  | [], xs, h => by cases h; rfl
  | .pd x :: r, xs, h => by
    rw [pdL] at h
    cases e : pdL r with
    | none => rw [e] at h; cases h
    | some ys =>
      rw [e] at h
      cases h
      rw [List.map_cons, pdL_eq e]
  | .ref n :: r, xs, h => by cases h
  | .glob n :: r, xs, h => by cases h
  | .xt n :: r, xs, h => by cases h
theorem asL_ok (r : RepS g L S H) (dn : Den g L H d v) {xs : List D} (e : asL S d = some xs) : ∃ a vs, v = .ref a ∧ Rd H a (.lst vs) ∧ Dens g L H xs vs := by
  unfold asL at e
  split at e
  · cases e
    obtain ⟨a, vs, rfl, rd, dz⟩ := den_lst dn
    exact ⟨a, vs, rfl, rd, dz.dens⟩
  · rename_i n
    cases dn with
    | ref hn =>
      split at e
      · rename_i xs' hs
        cases e
        obtain ⟨a, ha, od⟩ := r.ob hs
        rw [hn] at ha
        cases ha
        cases od with
        | lst q ds => exact ⟨_, _, rfl, .inl q, ds⟩
      · cases e
  · cases e
theorem asT_ok {xs : List PyData} (dn : Den g L H d v) (e : asT d = some xs) : ∃ a vs, v = .ref a ∧ SqT g.K H a vs ∧ DzAll g.K (g.wr L) H vs xs := by
  unfold asT at e
  split at e
  · cases e
    exact den_tup dn
  · cases e
theorem asQ_ok (r : RepS g L S H) (dn : Den g L H d v) {xs : List D} (e : asQ S d = some xs) : ∃ a vs, v = .ref a ∧ (SqL g.K H a vs ∨ SqT g.K H a vs) ∧ Dens g L H xs vs := by
  unfold asQ at e
  split at e
  · cases e
    obtain ⟨a, vs, rfl, rd, dz⟩ := den_tup dn
    exact ⟨a, vs, rfl, .inr rd, dz.dens⟩
  · obtain ⟨a, vs, rfl, rd, dz⟩ := asL_ok r dn e
    exact ⟨a, vs, rfl, .inl (.inl rd), dz⟩
mutual
theorem Dz.dp {K : PySem.W.Frag} {W : Addr → Prop} : ∀ {d : PyData} {v : V}, Dz K W H v d → d.hasDict = false → Dp K H v d
  | _, _, .non, _ => .non
  | _, _, .bl b, _ => .bl b
  | _, _, .int b, _ => .int b
  | _, _, .str b, _ => .str b
  | _, _, .lst _ r ha, h => .lst (.inl r) (DzAll.dp ha (by simpa [PyData.hasDict] using h))
  | _, _, .tup r ha, h => .tup r (DzAll.dp ha (by simpa [PyData.hasDict] using h))
  | _, _, .dct _ _ _ _, h => by simp [PyData.hasDict] at h
theorem DzAll.dp {K : PySem.W.Frag} {W : Addr → Prop} : ∀ {ds : List PyData} {vs : List V}, DzAll K W H vs ds → PyData.hasDictAll ds = false → DpAll K H vs ds
  | _, _, .nil, _ => .nil
  | _, _, .cons h1 h2, h => by
    rw [PyData.hasDictAll, Bool.or_eq_false_iff] at h
    exact .cons (Dz.dp h1 h.1) (DzAll.dp h2 h.2)
end
theorem view_dz (r : RepS g L S H) (dn : Den g L H d v) {x : PyData} (e : view S d = some x) (nd : x.hasDict = false) : Dp g.K H v x := by
  unfold view at e
  split at e
  · cases e
    cases dn with | pd h => exact h.dp nd
  · rename_i n
    cases dn with
    | ref hn =>
      split at e
      · rename_i xs hs
        cases e2 : pdL xs with
        | none => rw [e2] at e; cases e
        | some ys =>
          rw [e2] at e
          cases e
          obtain ⟨a, ha, od⟩ := r.ob hs
          rw [hn] at ha
          cases ha
          cases od with
          | lst q ds =>
            rw [pdL_eq e2] at ds
            exact .lst (.inl (.inl q)) (DzAll.dp (dens_dz ds) (by simpa [PyData.hasDict] using nd))
      · cases e
  · cases e
  · cases e
/-! ### ends -/
theorem fin_val {Q : VK} (r : RepS g L S H) (ev : Ev g E L H (.ok d S) (PV g Q)) (dn : Den g L H d v) : Q v H := ev.ok r v dn
theorem DzAll.new {p : Addr} {o : HO} (r : RepS g L S H) (n : H p = none) {ds : List PyData} {vs : List V} (z : DzAll g.K (g.wr L) H vs ds) : DzAll g.K (g.wr L) (upd H p o) vs ds := z.keep (kp r (Ext.new1 n))
theorem fin_tup {Q : VK} {ds : List PyData} {vs : List V} (r : RepS g L S H) (ev : Ev g E L H (.ok (.tup ds) S) (PV g Q)) (z : DzAll g.K (g.wr L) H vs ds) : ∀ p, H p = none → Q (.ref p) (upd H p (.tup vs)) := fun p n =>
  ev L _ (Ext.new1 n) (r.new1 n) _ (.pd (.tup (.inl (.inl upd_same)) (z.new r n)))
theorem fin_lst {Q : VK} {ds : List PyData} {vs : List V} (r : RepS g L S H) (ev : Ev g E L H (.ok (.lst ds) S) (PV g Q)) (z : DzAll g.K (g.wr L) H vs ds) : ∀ p, H p = none → Q (.ref p) (upd H p (.lst vs)) := fun p n =>
  ev L _ (Ext.new1 n) (r.new1 n) _ (.pd (.lst (r.free n) (.inl upd_same) (z.new r n)))
/-- a new object of the store -/
theorem fin_lstM {Q : VK} {ds : List D} {vs : List V} (r : RepS g L S H) (ev : Ev g E L H (.ok (.ref S.length) (S ++ [.lst ds])) (PV g Q)) (z : Dens g L H ds vs) : ∀ p, H p = none → Q (.ref p) (upd H p (.lst vs)) := fun p n => by
  have hl : S.length = L.length := Paired.len r.obs
  exact ev _ _ (Ext.newM n) (r.newM n (.lst upd_same (z.ext r (Ext.newM n))) (r.h0 n)) _ (.ref (by rw [hl]; simp))
theorem Dens.app {ds es : List D} {vs ws : List V} (a : Dens g L H ds vs) (b : Dens g L H es ws) : Dens g L H (ds ++ es) (vs ++ ws) := Paired.app a b
theorem DzAll.app {K : PySem.W.Frag} {W : Addr → Prop} : ∀ {ds es : List PyData} {vs ws : List V}, DzAll K W H vs ds → DzAll K W H ws es → DzAll K W H (vs ++ ws) (ds ++ es)
  | _, _, _, _, .nil, h => h
  | _, _, _, _, .cons r t, h => .cons r (DzAll.app t h)
theorem DzAll.len {K : PySem.W.Frag} {W : Addr → Prop} : ∀ {ds : List PyData} {vs : List V}, DzAll K W H vs ds → vs.length = ds.length
  | _, _, .nil => rfl
  | _, _, .cons _ t => by rw [List.length_cons, List.length_cons, DzAll.len t]
theorem DzAll.get {K : PySem.W.Frag} {W : Addr → Prop} : ∀ {ds : List PyData} {vs : List V}, DzAll K W H vs ds → ∀ {i : Nat} {d : PyData}, ds[i]? = some d → ∃ v, vs[i]? = some v ∧ Dz K W H v d
  | _, _, .nil, i, _, h => by simp at h
  | _, _, .cons r t, 0, _, h => by
    simp at h; subst h
    exact ⟨_, by simp, r⟩
  | _, _, .cons r t, i + 1, _, h => by
    obtain ⟨b, e, f⟩ := DzAll.get t (i := i) (by simpa using h)
    exact ⟨b, by simpa using e, f⟩
theorem DzAll.drop {K : PySem.W.Frag} {W : Addr → Prop} : ∀ {ds : List PyData} {vs : List V} (n : Nat), DzAll K W H vs ds → DzAll K W H (vs.drop n) (ds.drop n)
  | _, _, 0, h => h
  | _, _, _ + 1, .nil => .nil
  | _, _, n + 1, .cons _ t => DzAll.drop n t
theorem DzAll.take {K : PySem.W.Frag} {W : Addr → Prop} : ∀ {ds : List PyData} {vs : List V} (n : Nat), DzAll K W H vs ds → DzAll K W H (vs.take n) (ds.take n)
  | _, _, 0, _ => .nil
  | _, _, _ + 1, .nil => .nil
  | _, _, n + 1, .cons r t => .cons r (DzAll.take n t)
theorem DzAll.rev {K : PySem.W.Frag} {W : Addr → Prop} : ∀ {ds : List PyData} {vs : List V}, DzAll K W H vs ds → DzAll K W H vs.reverse ds.reverse
  | _, _, .nil => .nil
  | _, _, .cons r t => by rw [List.reverse_cons, List.reverse_cons]; exact (DzAll.rev t).app (.cons r .nil)
theorem DzAll.rep {K : PySem.W.Frag} {W : Addr → Prop} {ds : List PyData} {vs : List V} (h : DzAll K W H vs ds) : ∀ k : Nat, DzAll K W H (List.replicate k vs).flatten (List.replicate k ds).flatten
  | 0 => .nil
  | k + 1 => by rw [List.replicate_succ, List.replicate_succ, List.flatten_cons, List.flatten_cons]; exact h.app (DzAll.rep h k)

/-! ### operations by values -/
/-- a two-place operation, by data -/
def OpX (X : Cx) (g : G) (f : Value → Value → Sem Value) (op : D → D → Sto → Out D) : Prop :=
  ∀ E : WX, OpR X f (fun x y H Q => ∃ L S dx dy, RepS g L S H ∧ Den g L H dx x ∧ Den g L H dy y ∧ Ev g E L H (op dx dy S) (PV g Q))
theorem OpX.has {X : Cx} {f : Value → Value → Sem Value} {op : D → D → Sto → Out D} (h : OpX X g f op) (E : WX) : ∃ r : R2, OpR X f r ∧ ∀ L S H x y dx dy Q, RepS g L S H → Den g L H dx x → Den g L H dy y → Ev g E L H (op dx dy S) (PV g Q) → r x y H Q :=
  ⟨_, h E, fun L S H x y dx dy Q r a b e => ⟨L, S, dx, dy, r, a, b, e⟩⟩
variable {X : Cx} {a b c : Expr} {ma mb mc : DM D} {pos : Pos}
theorem tOpX_of {op : D → D → Sto → Out D} {r : R2} {Q : VK}
    (hs : ∀ L S H x y dx dy Q, RepS g L S H → Den g L H dx x → Den g L H dy y → Ev g E L H (op dx dy S) (PV g Q) → r x y H Q) (h : T g E (eOp op ma mb) σ H Q) : tOp r (T g E ma) (T g E mb) σ H Q := by
  obtain ⟨L, σd, S, rp, sl, ev⟩ := h
  refine ⟨L, σd, S, rp, sl, ev.step fun dx S1 L1 H1 x1 r1 ev1 x n1 => ?_⟩
  refine ⟨L1, σd, S1, r1, sl.ext rp x1, ev1.step fun dy S2 L2 H2 x2 r2 ev2 y n2 => ?_⟩
  exact hs L2 S2 H2 x y dx dy Q r2 (n1.ext r1 x2) n2 ev2
theorem px_op {op : Operator} {f : D → D → Sto → Out D} (ho : OpX X g (binaryOp op) f) (ha : PE X a (T g E ma)) (hb : PE X b (T g E mb)) : PE X (.BinOp a op b pos) (T g E (eOp f ma mb)) := by
  obtain ⟨r, hr, hs⟩ := OpX.has ho E
  exact PE.imp (pe_op hr ha hb) fun σ H Q h => tOpX_of hs h
theorem px_cmp {op : CmpOp} {f : D → D → Sto → Out D} (ho : OpX X g (compareOp op) f) (ha : PE X a (T g E ma)) (hb : PE X b (T g E mb)) (hm : behindInMarks op b = false) : PE X (.Compare a [op] [b] pos) (T g E (eOp f ma mb)) := by
  obtain ⟨r, hr, hs⟩ := OpX.has ho E
  exact PE.imp (pe_cmpR hr ha hb hm) fun σ H Q h => tOpX_of hs h
theorem pt_cmpX {op : CmpOp} {f : D → D → Sto → Out D} (ho : OpX X g (compareOp op) f) (ha : PE X a (T g E ma)) (hb : PE X b (T g E mb)) (hm : behindInMarks op b = false) : PT X (.Compare a [op] [b] pos) (TB g E (eTest (eOp f ma mb))) := by
  obtain ⟨r, hr, hs⟩ := OpX.has ho E
  refine PT.imp (pt_cmpR hr ha hb hm) fun σ H Q h => ?_
  obtain ⟨L, σd, S, rp, sl, ev⟩ := h
  refine tOpX_of (Q := fun x H' => ∃ k, x = .bl k ∧ Q k H') hs ⟨L, σd, S, rp, sl, ev.step fun d S' L' H' x r' ev' v dn => ?_⟩
  exact asB_ok r' dn ev'

/-! lists that are read -/
theorem _root_.L2.Inv.lstR {pins : List (Addr × Obj)} {σ : L2.St} {H : Hp} {s : Shared} {l : Addr} {xs : List V} (I : Inv X pins σ H s) (h : Rd H l (.lst xs)) : xs.length ≤ sizeLine ∧ ∃ (its : List Value) (n : Nat), Vals xs its ∧ xs.length = its.length ∧ s.heap.get? l = some { cls := .type "list", data := .seq its.toArray n } := by
  obtain ⟨z, its, n, r, e⟩ := h.ok I.hok
  exact ⟨z, its, n, r, r.length, e⟩
def rCatR : R2 := fun x y H Q => ∃ l b xs zs, x = .ref l ∧ y = .ref b ∧ Rd H l (.lst xs) ∧ Rd H b (.lst zs) ∧ xs.length + zs.length ≤ sizeLine ∧ ∀ p, H p = none → Q (.ref p) (upd H p (.lst (xs ++ zs)))
theorem op_catR : OpR X (binaryOp .Add) rCatR := by
  intro pins s σ H x y v u Q I rx ry h
  obtain ⟨l, b, xs, zs, rfl, rfl, hH, hB, hz, q⟩ := h
  cases rx
  cases ry
  obtain ⟨z, its, n, r, hl, e⟩ := I.lstR hH
  obtain ⟨z2, its2, n2, r2, hl2, e2⟩ := I.lstR hB
  refine PySem.P.add_list e e2 ?_ (by rw [List.size_toArray, List.size_toArray]; omega)
  have ea : its.toArray ++ its2.toArray = (its ++ its2).toArray := by simp
  rw [ea]
  exact ⟨.ref _, _, I.lnew (t' := s.toks) (r.append r2) (by rw [List.length_append]; omega), rfl, q _ I.fresh⟩
def rRepR : R2 := fun x y H Q => ∃ l k xs, x = .ref l ∧ y = .int k ∧ Rd H l (.lst xs) ∧ -(2 ^ 63) ≤ k ∧ k < 2 ^ 63 ∧ xs.length * k.toNat ≤ sizeLine ∧
  ∀ p, H p = none → Q (.ref p) (upd H p (.lst (List.replicate k.toNat xs).flatten))
theorem op_repR : OpR X (binaryOp .Mult) rRepR := by
  intro pins s σ H x y v u Q I rx ry h
  obtain ⟨l, k, xs, rfl, rfl, hH, h1, h2, hz, q⟩ := h
  cases rx
  obtain ⟨t, rfl⟩ := ry
  obtain ⟨z, its, n, r, hl, e⟩ := I.lstR hH
  have hlen : its.toArray.size * k.toNat ≤ sizeLine := by rw [List.size_toArray, ← hl]; exact hz
  have hcap : ¬ its.toArray.size * k.toNat > (2 ^ 63 - 1) / 8 := by
    have : (sizeLine : Nat) ≤ (2 ^ 63 - 1) / 8 := by decide
    omega
  have hfit : ¬ (!Builtin.List.listFitsIndex k) = true := by
    rw [fitsIndex_both h1 h2]
    exact Bool.false_ne_true
  have hlong : ¬ Builtin.List.listTooLong (its.toArray.size * k.toNat) = true := by
    rw [notLongL hlen]
    exact Bool.false_ne_true
  have hnew : List.foldl (fun x1 x2 => x1 ++ x2) #[] (List.replicate (if its.toArray.isEmpty = true then 0 else k.toNat) its.toArray) = (List.replicate k.toNat its).flatten.toArray := by
    have f0 : ∀ m : Nat, List.foldl (fun x1 x2 => x1 ++ x2) #[] (List.replicate m its.toArray) = (List.replicate m its).flatten.toArray := fun m => by
      have := foldl_rep its m []
      rw [List.nil_append] at this
      exact this
    rw [f0]
    cases its with
    | nil => simp
    | cons a r' => rw [if_neg (by simp)]
  refine wpAny_binaryOp_repeat_ref (T := "list") (U := "int") (by decide) ⟨_, e, rfl⟩ (fun s' => typeIs_int s' k t) noFill_list_mul F.fills_int_mul F.slot_int_rmul repeat_list F.slot_int_index.lookup
    (call_meets F.slot_int_rmul (typeIs_int s k t) F.entry_int_rmul (F.args_int_rmul_2 _ _) (int___rmul___int_list k t l its.toArray n)
      ⟨e, rfl, ⟨_, e, rfl⟩, call_meets F.slot_list_mul ⟨_, e, rfl⟩ F.entry_list_mul (F.args_list_mul_2 _ _) (AutoListH.list___mul___list_int_3 l its.toArray n k t hfit hcap hlong) ⟨e, ?_⟩⟩)
  rw [hnew]
  exact ⟨.ref _, _, I.lnew (t' := s.toks) (r.rep k.toNat) (by rw [PyProof.Rows.lm_len_rep_flat, Nat.mul_comm]; exact hz), rfl, q _ I.fresh⟩
end
end DL
end
section
namespace DL
open PySem PySem.Spec PyProof.Rows L2

/-! ### what the operations come to -/
def opAdd : D → D → Sto → Out D := fun x y S => match x, y with
  | .pd (.int i), .pd (.int j) => .ok (.int (i + j)) S
  | .pd (.str i), .pd (.str j) => if i.length + j.length ≤ sizeLine then .ok (.str (i ++ j)) S else .stuck
  | .pd (.tuple xs), .pd (.tuple ys) => if xs.length + ys.length ≤ sizeLine then .ok (.tup (xs ++ ys)) S else .stuck
  | x, y => match asL S x, asL S y with
    | some xs, some ys => match pdL (xs ++ ys) with
      | some zs => if zs.length ≤ sizeLine then .ok (.lst zs) S else .stuck
      | none => .stuck
    | _, _ => .stuck
def opSub : D → D → Sto → Out D := fun x y S => match x, y with
  | .pd (.int i), .pd (.int j) => .ok (.int (i - j)) S
  | _, _ => .stuck
def opMul : D → D → Sto → Out D := fun x y S => match x, y with
  | .pd (.int i), .pd (.int j) => if i.natAbs < 2 ^ 64 ∨ j.natAbs < 2 ^ 64 then .ok (.int (i * j)) S else .stuck
  | .pd (.tuple xs), .pd (.int k) => if xs ≠ [] ∧ 2 ≤ k ∧ k ≤ 1000 ∧ xs.length ≤ 1000 then .ok (.tup (List.replicate k.toNat xs).flatten) S else .stuck
  | x, .pd (.int k) => match asL S x with
    | some xs => match pdL xs with
      | some zs => if -(2 ^ 63) ≤ k ∧ k < 2 ^ 63 ∧ zs.length * k.toNat ≤ sizeLine then .ok (.lst (List.replicate k.toNat zs).flatten) S else .stuck
      | none => .stuck
    | none => .stuck
  | _, _ => .stuck
def opMod : D → D → Sto → Out D := fun x y S => match x, y with
  | .pd (.int i), .pd (.int j) => if 0 < j then .ok (.int (i % j)) S else .stuck
  | _, _ => .stuck
def opDiv : D → D → Sto → Out D := fun x y S => match x, y with
  | .pd (.int i), .pd (.int j) => if 0 < j ∧ j < 1073741824 then .ok (.int (i / j)) S else .stuck
  | _, _ => .stuck
def opPow : D → D → Sto → Out D := fun x y S => match x, y with
  | .pd (.int i), .pd (.int j) => if 0 ≤ j ∧ j ≤ 1000 ∧ i.natAbs < 2 ^ 64 then .ok (.int (i ^ j.toNat)) S else .stuck
  | _, _ => .stuck
section
variable {g : G} {E : WX} {L L' : List Addr} {H H' : Hp} {S S' : Sto} {σd : Sl} {σ : St} {v : V} {d : D}
variable {X : Cx}
theorem ox_add (hk : X.K = g.K) : OpX X g (binaryOp .Add) opAdd := by
  intro E pins s σ H x y v u Q I rx ry h
  obtain ⟨L, S, dx, dy, r, nx, ny, ev⟩ := h
  unfold opAdd at ev
  split at ev
  · rename_i i j
    cases den_int nx; cases den_int ny
    exact op_add pins s σ H _ _ v u Q I rx ry ⟨i, j, rfl, rfl, fin_val r ev (.pd (.int _))⟩
  · rename_i i j
    split at ev
    · rename_i hz
      cases den_str nx; cases den_str ny
      exact op_add_str pins s σ H _ _ v u Q I rx ry ⟨i, j, rfl, rfl, hz, fin_val r ev (.pd (.str _))⟩
    · exact ev.elim
  · rename_i xs ys
    split at ev
    · rename_i hz
      obtain ⟨a, vs, rfl, ha, za⟩ := den_tup nx
      obtain ⟨b, ws, rfl, hb, zb⟩ := den_tup ny
      rw [← hk] at ha hb
      refine op_catA pins s σ H _ _ v u Q I rx ry ⟨a, b, vs, ws, rfl, rfl, ha, hb, by rw [za.len, zb.len]; exact hz, fun e => ?_, fun e e2 => ?_, fun _ _ => fin_tup r ev (za.app zb)⟩
      · have : xs = [] := List.length_eq_zero_iff.mp (by rw [← za.len, e]; rfl)
        subst this
        exact fin_val r ev ny
      · have : ys = [] := List.length_eq_zero_iff.mp (by rw [← zb.len, e2]; rfl)
        subst this
        rw [List.append_nil] at ev
        exact fin_val r ev nx
    · exact ev.elim
  · split at ev
    · rename_i xs ys ex ey
      obtain ⟨a, vs, rfl, ha, za⟩ := asL_ok r nx ex
      obtain ⟨b, ws, rfl, hb, zb⟩ := asL_ok r ny ey
      split at ev
      · rename_i zs ez
        split at ev
        · rename_i hz
          have z2 := dens_dz (pdL_eq ez ▸ Dens.app za zb)
          refine op_catR pins s σ H _ _ v u Q I rx ry ⟨a, b, vs, ws, rfl, rfl, ha, hb, ?_, fin_lst r ev z2⟩
          rw [← List.length_append, z2.len]; exact hz
        · exact ev.elim
      · exact ev.elim
    · exact ev.elim
theorem ox_sub : OpX X g (binaryOp .Sub) opSub := by
  intro E pins s σ H x y v u Q I rx ry h
  obtain ⟨L, S, dx, dy, r, nx, ny, ev⟩ := h
  unfold opSub at ev
  split at ev
  · rename_i i j
    cases den_int nx; cases den_int ny
    exact op_sub pins s σ H _ _ v u Q I rx ry ⟨i, j, rfl, rfl, fin_val r ev (.pd (.int _))⟩
  · exact ev.elim
theorem ox_mul (hk : X.K = g.K) : OpX X g (binaryOp .Mult) opMul := by
  intro E pins s σ H x y v u Q I rx ry h
  obtain ⟨L, S, dx, dy, r, nx, ny, ev⟩ := h
  unfold opMul at ev
  split at ev
  · rename_i i j
    split at ev
    · rename_i hz
      cases den_int nx; cases den_int ny
      exact op_mul pins s σ H _ _ v u Q I rx ry ⟨i, j, rfl, rfl, hz.imp (fun h => by omega) (fun h => by omega), fin_val r ev (.pd (.int _))⟩
    · exact ev.elim
  · rename_i xs k
    split at ev
    · rename_i hz
      obtain ⟨a, vs, rfl, ha, za⟩ := den_tup nx
      cases den_int ny
      rw [← hk] at ha
      refine op_repT pins s σ H _ _ v u Q I rx ry ⟨a, k, vs, rfl, rfl, ha, fun e => hz.1 ?_, hz.2.1, hz.2.2.1, by rw [za.len]; exact hz.2.2.2, fin_tup r ev (za.rep _)⟩
      exact List.length_eq_zero_iff.mp (by rw [← za.len, e]; rfl)
    · exact ev.elim
  · rename_i k _ _
    split at ev
    · rename_i xs ex
      obtain ⟨a, vs, rfl, ha, za⟩ := asL_ok r nx ex
      cases den_int ny
      split at ev
      · rename_i zs ez
        split at ev
        · rename_i hz
          have z2 := dens_dz (pdL_eq ez ▸ za)
          exact op_repR pins s σ H _ _ v u Q I rx ry ⟨a, k, vs, rfl, rfl, ha, hz.1, hz.2.1, by rw [z2.len]; exact hz.2.2, fin_lst r ev (z2.rep _)⟩
        · exact ev.elim
      · exact ev.elim
    · exact ev.elim
  · exact ev.elim
theorem ox_mod : OpX X g (binaryOp .Mod) opMod := by
  intro E pins s σ H x y v u Q I rx ry h
  obtain ⟨L, S, dx, dy, r, nx, ny, ev⟩ := h
  unfold opMod at ev
  split at ev
  · rename_i i j
    split at ev
    · rename_i hz
      cases den_int nx; cases den_int ny
      exact op_mod pins s σ H _ _ v u Q I rx ry ⟨i, j, rfl, rfl, hz, fin_val r ev (.pd (.int _))⟩
    · exact ev.elim
  · exact ev.elim
theorem ox_div : OpX X g (binaryOp .FloorDiv) opDiv := by
  intro E pins s σ H x y v u Q I rx ry h
  obtain ⟨L, S, dx, dy, r, nx, ny, ev⟩ := h
  unfold opDiv at ev
  split at ev
  · rename_i i j
    split at ev
    · rename_i hz
      cases den_int nx; cases den_int ny
      exact op_fdiv pins s σ H _ _ v u Q I rx ry ⟨i, j, rfl, rfl, hz, fin_val r ev (.pd (.int _))⟩
    · exact ev.elim
  · exact ev.elim
theorem ox_pow : OpX X g (binaryOp .Pow) opPow := by
  intro E pins s σ H x y v u Q I rx ry h
  obtain ⟨L, S, dx, dy, r, nx, ny, ev⟩ := h
  unfold opPow at ev
  split at ev
  · rename_i i j
    split at ev
    · rename_i hz
      cases den_int nx; cases den_int ny
      exact op_pow pins s σ H _ _ v u Q I rx ry ⟨i, j, rfl, rfl, ⟨hz.1, by omega, hz.2.2⟩, fin_val r ev (.pd (.int _))⟩
    · exact ev.elim
  · exact ev.elim

/-! comparisons -/
def okEq (d : PyData) : Bool := SeqAt.shaped d
def opEq0 (ne : Bool) : D → D → Sto → Out D := fun x y S => match view S x, view S y with
  | some a, some b => if okEq a && okEq b then .ok (.bl (PyData.eqv a b ^^ ne)) S else .stuck
  | _, _ => .stuck
theorem okEq_nd {d : PyData} (h : okEq d = true) : d.hasDict = false := PyData.hasDict_of_canLay d (SeqAt.canLay_of_shaped h)
theorem ox_eq0 (hk : X.K = g.K) (hu : X.A.units + 64 < cLine) : OpX X g (compareOp .Eq) (opEq0 false) := by
  intro E pins s σ H x y v u Q I rx ry h
  obtain ⟨L, S, dx, dy, r, nx, ny, ev⟩ := h
  unfold opEq0 at ev
  split at ev
  · rename_i a b ea eb
    split at ev
    · rename_i hz
      rw [Bool.and_eq_true] at hz
      have h1 := view_dz r nx ea (okEq_nd hz.1)
      have h2 := view_dz r ny eb (okEq_nd hz.2)
      rw [← hk] at h1 h2
      exact op_eqD hu pins s σ H _ _ v u Q I rx ry ⟨a, b, h1, h2, hz.1, hz.2, fin_val r ev (by rw [Bool.xor_false]; exact .pd (.bl _))⟩
    · exact ev.elim
  · exact ev.elim
theorem ox_ne0 (hk : X.K = g.K) (hu : X.A.units + 64 < cLine) : OpX X g (compareOp .NotEq) (opEq0 true) := by
  intro E pins s σ H x y v u Q I rx ry h
  obtain ⟨L, S, dx, dy, r, nx, ny, ev⟩ := h
  unfold opEq0 at ev
  split at ev
  · rename_i a b ea eb
    split at ev
    · rename_i hz
      rw [Bool.and_eq_true] at hz
      have h1 := view_dz r nx ea (okEq_nd hz.1)
      have h2 := view_dz r ny eb (okEq_nd hz.2)
      rw [← hk] at h1 h2
      exact op_neD hu pins s σ H _ _ v u Q I rx ry ⟨a, b, h1, h2, hz.1, hz.2, fin_val r ev (by rw [Bool.xor_true]; exact .pd (.bl _))⟩
    · exact ev.elim
  · exact ev.elim
/-- texts by themselves -/
def opEq (ne : Bool) : D → D → Sto → Out D := fun x y S => match x, y with
  | .pd (.str i), .pd (.str j) => .ok (.bl (decide (i = j) ^^ ne)) S
  | x, y => opEq0 ne x y S
theorem ox_eq (hk : X.K = g.K) (hu : X.A.units + 64 < cLine) : OpX X g (compareOp .Eq) (opEq false) := by
  intro E pins s σ H x y v u Q I rx ry h
  obtain ⟨L, S, dx, dy, r, nx, ny, ev⟩ := h
  unfold opEq at ev
  split at ev
  · rename_i i j
    cases den_str nx; cases den_str ny
    refine op_eq pins s σ H _ _ v u Q I rx ry ⟨rfl, ?_⟩
    have e : decide (V.str i = V.str j) = decide (i = j) := by simp
    rw [e]
    exact fin_val r ev (by rw [Bool.xor_false]; exact .pd (.bl _))
  · exact ox_eq0 hk hu E pins s σ H x y v u Q I rx ry ⟨L, S, _, _, r, nx, ny, ev⟩
theorem ox_ne (hk : X.K = g.K) (hu : X.A.units + 64 < cLine) : OpX X g (compareOp .NotEq) (opEq true) := by
  intro E pins s σ H x y v u Q I rx ry h
  obtain ⟨L, S, dx, dy, r, nx, ny, ev⟩ := h
  unfold opEq at ev
  split at ev
  · rename_i i j
    cases den_str nx; cases den_str ny
    refine op_ne pins s σ H _ _ v u Q I rx ry ⟨rfl, ?_⟩
    have e : decide (V.str i = V.str j) = decide (i = j) := by simp
    rw [e]
    exact fin_val r ev (by rw [Bool.xor_true]; exact .pd (.bl _))
  · exact ox_ne0 hk hu E pins s σ H x y v u Q I rx ry ⟨L, S, _, _, r, nx, ny, ev⟩
/-- two ints, or (for <) two tuples of ints -/
def opCmpI (p : Int → Int → Bool) : D → D → Sto → Out D := fun x y S => match x, y with
  | .pd (.int i), .pd (.int j) => .ok (.bl (p i j)) S
  | _, _ => .stuck
theorem ox_le : OpX X g (compareOp .LtE) (opCmpI fun i j => decide (i ≤ j)) := by
  intro E pins s σ H x y v u Q I rx ry h
  obtain ⟨L, S, dx, dy, r, nx, ny, ev⟩ := h
  unfold opCmpI at ev
  split at ev
  · rename_i i j
    cases den_int nx; cases den_int ny
    exact op_le pins s σ H _ _ v u Q I rx ry ⟨i, j, rfl, rfl, fin_val r ev (.pd (.bl _))⟩
  · exact ev.elim
theorem ox_gt : OpX X g (compareOp .Gt) (opCmpI fun i j => decide (j < i)) := by
  intro E pins s σ H x y v u Q I rx ry h
  obtain ⟨L, S, dx, dy, r, nx, ny, ev⟩ := h
  unfold opCmpI at ev
  split at ev
  · rename_i i j
    cases den_int nx; cases den_int ny
    exact op_gt pins s σ H _ _ v u Q I rx ry ⟨i, j, rfl, rfl, fin_val r ev (.pd (.bl _))⟩
  · exact ev.elim
theorem ox_ge : OpX X g (compareOp .GtE) (opCmpI fun i j => decide (j ≤ i)) := by
  intro E pins s σ H x y v u Q I rx ry h
  obtain ⟨L, S, dx, dy, r, nx, ny, ev⟩ := h
  unfold opCmpI at ev
  split at ev
  · rename_i i j
    cases den_int nx; cases den_int ny
    exact op_ge pins s σ H _ _ v u Q I rx ry ⟨i, j, rfl, rfl, fin_val r ev (.pd (.bl _))⟩
  · exact ev.elim
def intsL : List PyData → Option (List Int)
  | [] => some []
  | .int i :: r => (intsL r).map (i :: ·)
  | _ :: _ => none
theorem intsL_eq : ∀ {ds : List PyData} {xs : List Int}, intsL ds = some xs → ds = xs.map .int
  | [], xs, h => by cases h; rfl
  | .int x :: r, xs, h => by
    rw [intsL] at h
    cases e : intsL r with
    | none => rw [e] at h; cases h
    | some ys => rw [e] at h; cases h; rw [List.map_cons, intsL_eq e]
  | .none :: r, xs, h => by cases h
  | .bool _ :: r, xs, h => by cases h
  | .str _ :: r, xs, h => by cases h
  | .list _ :: r, xs, h => by cases h
  | .tuple _ :: r, xs, h => by cases h
  | .dict _ :: r, xs, h => by cases h
@[simp] theorem intsL_map : ∀ xs : List Int, intsL (xs.map .int) = some xs
  | [] => rfl
  | x :: xs => by rw [List.map_cons, intsL, intsL_map xs]; rfl
theorem DzAll.ints {K : PySem.W.Frag} {W : Addr → Prop} : ∀ {xs : List Int} {vs : List V}, DzAll K W H vs (xs.map .int) → vs = xs.map V.int
  | [], _, h => by cases h; rfl
  | x :: xs, _, h => by
    cases h with
    | cons h1 h2 => cases h1; rw [DzAll.ints h2]; rfl
def opLt : D → D → Sto → Out D := fun x y S => match x, y with
  | .pd (.int i), .pd (.int j) => .ok (.bl (decide (i < j))) S
  | .pd (.tuple xs), .pd (.tuple ys) => match intsL xs, intsL ys with
    | some ns, some ms => .ok (.bl (HT.lexLt ns ms)) S
    | _, _ => .stuck
  | _, _ => .stuck
theorem ox_lt (hk : X.K = g.K) (hu : X.A.units + 64 < cLine) : OpX X g (compareOp .Lt) opLt := by
  intro E pins s σ H x y v u Q I rx ry h
  obtain ⟨L, S, dx, dy, r, nx, ny, ev⟩ := h
  unfold opLt at ev
  split at ev
  · rename_i i j
    cases den_int nx; cases den_int ny
    exact op_lt pins s σ H _ _ v u Q I rx ry ⟨i, j, rfl, rfl, fin_val r ev (.pd (.bl _))⟩
  · split at ev
    · rename_i xs ys _ _ ns ms en em
      obtain ⟨a, vs, rfl, ha, za⟩ := den_tup nx
      obtain ⟨b, ws, rfl, hb, zb⟩ := den_tup ny
      rw [← hk] at ha hb
      rw [intsL_eq en] at za
      rw [intsL_eq em] at zb
      rw [za.ints] at ha
      rw [zb.ints] at hb
      exact op_ltT (by omega) pins s σ H _ _ v u Q I rx ry ⟨a, b, ns, ms, rfl, rfl, ha, hb, fin_val r ev (.pd (.bl _))⟩
    · exact ev.elim
  · exact ev.elim
/-- is, is not: of None, of truths -/
def opIs (ne : Bool) : D → D → Sto → Out D := fun x y S => match y with
  | .pd .none => match x with
    | .pd .none => .ok (.bl (!ne)) S
    | _ => .ok (.bl ne) S
  | .pd (.bool b) => match x with
    | .pd (.bool a) => .ok (.bl (decide (a = b) ^^ ne)) S
    | _ => .stuck
  | _ => .stuck
theorem den_notnon (h : Den g L H d v) (hn : ∀ (h : d = .pd .none), False) : v ≠ .non := by
  cases h with
  | pd h =>
    cases h with
    | non => exact (hn rfl).elim
    | _ => intro z; cases z
  | _ => intro z; cases z
theorem ox_is : OpX X g (compareOp .Is) (opIs false) := by
  intro E pins s σ H x y v u Q I rx ry h
  obtain ⟨L, S, dx, dy, r, nx, ny, ev⟩ := h
  unfold opIs at ev
  split at ev
  · cases den_non ny
    split at ev
    · cases den_non nx
      exact op_isN pins s σ H _ _ v u Q I rx ry ⟨rfl, fin_val r ev (.pd (.bl _))⟩
    · rename_i hn
      have hx := den_notnon nx hn
      exact op_isN pins s σ H _ _ v u Q I rx ry ⟨rfl, fin_val r ev (by rw [decide_eq_false hx]; exact .pd (.bl _))⟩
  · split at ev
    · rename_i b _ a
      cases den_bl nx; cases den_bl ny
      exact op_isBl pins s σ H _ _ v u Q I rx ry ⟨a, b, rfl, rfl, fin_val r ev (by rw [Bool.xor_false]; exact .pd (.bl _))⟩
    · exact ev.elim
  · exact ev.elim
theorem ox_isnot : OpX X g (compareOp .IsNot) (opIs true) := by
  intro E pins s σ H x y v u Q I rx ry h
  obtain ⟨L, S, dx, dy, r, nx, ny, ev⟩ := h
  unfold opIs at ev
  split at ev
  · cases den_non ny
    split at ev
    · cases den_non nx
      exact op_notN pins s σ H _ _ v u Q I rx ry ⟨rfl, fin_val r ev (.pd (.bl _))⟩
    · rename_i hn
      have hx := den_notnon nx hn
      exact op_notN pins s σ H _ _ v u Q I rx ry ⟨rfl, fin_val r ev (by rw [decide_eq_false hx]; exact .pd (.bl _))⟩
  · split at ev
    · rename_i b _ a
      cases den_bl nx; cases den_bl ny
      exact op_notBl pins s σ H _ _ v u Q I rx ry ⟨a, b, rfl, rfl, fin_val r ev (by rw [Bool.xor_true]; exact .pd (.bl _))⟩
    · exact ev.elim
  · exact ev.elim
/-- in, not in: of a list, of a tuple -/
def opIn (ne : Bool) : D → D → Sto → Out D := fun x y S => match x with
  | .pd a => match y with
    | .pd (.tuple ds) => if okEq a && okEq (.tuple ds) then .ok (.bl ((ds.any fun z => PyData.eqv z a) ^^ ne)) S else .stuck
    | y => match view S y with
      | some (.list ds) => if okEq a && okEq (.list ds) then .ok (.bl ((ds.any fun z => PyData.eqv z a) ^^ ne)) S else .stuck
      | _ => .stuck
  | _ => .stuck
theorem room_in' {A : Around} {d : PyData} {xs : List PyData} (h : okEq d = true) (hu : A.units + 65 < cLine) : A.units + 1 + min (PyData.depthAll xs) d.depth < cLine := by
  have h1 := SeqAt.depth_of_shaped h
  have h2 : min (PyData.depthAll xs) d.depth ≤ d.depth := Nat.min_le_right _ _
  omega
theorem ox_in (hk : X.K = g.K) (hu : X.A.units + 65 < cLine) : OpX X g (compareOp .In) (opIn false) := by
  intro E pins s σ H x y v u Q I rx ry h
  obtain ⟨L, S, dx, dy, r, nx, ny, ev⟩ := h
  unfold opIn at ev
  split at ev
  · split at ev
    · rename_i a _ ds
      split at ev
      · rename_i hz
        rw [Bool.and_eq_true] at hz
        have h1 := view_dz r nx (x := a) rfl (okEq_nd hz.1)
        have h2 := view_dz r ny (x := .tuple ds) rfl (okEq_nd hz.2)
        rw [← hk] at h1 h2
        obtain ⟨as, r1⟩ := Dp.reads I _ x v h1 rx
        obtain ⟨bs, r2⟩ := Dp.reads I _ y u h2 ry
        exact SeqAt.in_tuple_reads r2 r1 (SeqAt.canLay_of_shaped hz.2) (SeqAt.canLay_of_shaped hz.1) (room_in' hz.1 hu) ⟨.bl _, H, I, rfl, fin_val r ev (by rw [Bool.xor_false]; exact .pd (.bl _))⟩
      · exact ev.elim
    · split at ev
      · rename_i a _ _ _ ds e
        split at ev
        · rename_i hz
          rw [Bool.and_eq_true] at hz
          have h1 := view_dz r nx (x := a) rfl (okEq_nd hz.1)
          have h2 := view_dz r ny e (okEq_nd hz.2)
          rw [← hk] at h1 h2
          obtain ⟨as, r1⟩ := Dp.reads I _ x v h1 rx
          obtain ⟨bs, r2⟩ := Dp.reads I _ y u h2 ry
          exact SeqAt.in_list_reads r2 r1 (SeqAt.canLay_of_shaped hz.2) (SeqAt.canLay_of_shaped hz.1) (room_in' hz.1 hu) ⟨.bl _, H, I, rfl, fin_val r ev (by rw [Bool.xor_false]; exact .pd (.bl _))⟩
        · exact ev.elim
      · exact ev.elim
  · exact ev.elim
theorem ox_notin (hk : X.K = g.K) (hu : X.A.units + 65 < cLine) : OpX X g (compareOp .NotIn) (opIn true) := by
  intro E pins s σ H x y v u Q I rx ry h
  obtain ⟨L, S, dx, dy, r, nx, ny, ev⟩ := h
  unfold opIn at ev
  split at ev
  · split at ev
    · rename_i a _ ds
      split at ev
      · rename_i hz
        rw [Bool.and_eq_true] at hz
        have h1 := view_dz r nx (x := a) rfl (okEq_nd hz.1)
        have h2 := view_dz r ny (x := .tuple ds) rfl (okEq_nd hz.2)
        rw [← hk] at h1 h2
        obtain ⟨as, r1⟩ := Dp.reads I _ x v h1 rx
        obtain ⟨bs, r2⟩ := Dp.reads I _ y u h2 ry
        exact SeqAt.notIn_tuple_reads r2 r1 (SeqAt.canLay_of_shaped hz.2) (SeqAt.canLay_of_shaped hz.1) (room_in' hz.1 hu) ⟨.bl _, H, I, rfl, fin_val r ev (by rw [Bool.xor_true]; exact .pd (.bl _))⟩
      · exact ev.elim
    · split at ev
      · rename_i a _ _ _ ds e
        split at ev
        · rename_i hz
          rw [Bool.and_eq_true] at hz
          have h1 := view_dz r nx (x := a) rfl (okEq_nd hz.1)
          have h2 := view_dz r ny e (okEq_nd hz.2)
          rw [← hk] at h1 h2
          obtain ⟨as, r1⟩ := Dp.reads I _ x v h1 rx
          obtain ⟨bs, r2⟩ := Dp.reads I _ y u h2 ry
          exact SeqAt.notIn_list_reads r2 r1 (SeqAt.canLay_of_shaped hz.2) (SeqAt.canLay_of_shaped hz.1) (room_in' hz.1 hu) ⟨.bl _, H, I, rfl, fin_val r ev (by rw [Bool.xor_true]; exact .pd (.bl _))⟩
        · exact ev.elim
      · exact ev.elim
  · exact ev.elim
end
end DL
end
section
namespace DL
open PySem PySem.Spec PyProof.Rows L2
section
variable {g : G} {E : WX} {L L' : List Addr} {H H' : Hp} {S S' : Sto} {σd : Sl} {σ : St} {v : V} {d : D}
variable {X : Cx} {a b c : Expr} {ma mb mc : DM D} {na nb nc : DM Bool} {pos : Pos}

/-! ### chains -/
def eChain (op op' : D → D → Sto → Out D) (a b c : DM D) : DM D := mBind a fun x => mBind b fun y => mBind (mBind (fun _ S => op x y S) asB) fun k => if k then mBind c fun z => fun _ S => op' y z S else eK (.bl false)
theorem chainX_of {op op' : D → D → Sto → Out D} {r r' : R2} {Q : VK}
    (hs : ∀ L S H x y dx dy Q, RepS g L S H → Den g L H dx x → Den g L H dy y → Ev g E L H (op dx dy S) (PV g Q) → r x y H Q)
    (hs' : ∀ L S H x y dx dy Q, RepS g L S H → Den g L H dx x → Den g L H dy y → Ev g E L H (op' dx dy S) (PV g Q) → r' x y H Q) (h : T g E (eChain op op' ma mb mc) σ H Q) : tChain r r' (T g E ma) (T g E mb) (T g E mc) σ H Q := by
  obtain ⟨L, σd, S, rp, sl, ev⟩ := h
  refine ⟨L, σd, S, rp, sl, ev.step fun dx S1 L1 H1 x1 r1 ev1 x n1 => ?_⟩
  refine ⟨L1, σd, S1, r1, sl.ext rp x1, ev1.step fun dy S2 L2 H2 x2 r2 ev2 y n2 => ?_⟩
  have ev2' := Ev.bind ev2
  refine hs L2 S2 H2 x y dx dy _ r2 (n1.ext r1 x2) n2 ((Ev.bind ev2').imp fun dz S3 L3 H3 x3 r3 ev3 z n3 => ?_)
  have sl3 : SlDen g L3 H3 σd σ := ((sl.ext rp x1).ext r1 x2).ext r2 x3
  unfold asB at ev3
  split at ev3
  · rename_i k
    cases den_bl n3
    refine ⟨k, rfl, ?_⟩
    cases k with
    | true =>
      have ev4 : Ev g E L3 H3 (mBind mc (fun z => fun _ S => op' dy z S) σd S3) (PV g Q) := ev3.ok r3
      rw [if_pos rfl]
      refine ⟨L3, σd, S3, r3, sl3, ev4.step fun dw S4 L4 H4 x4 r4 ev5 w n4 => ?_⟩
      exact hs' L4 S4 H4 y w dy dw Q r4 ((n2.ext r2 x3).ext r3 x4) n4 ev5
    | false =>
      have ev4 : Ev g E L3 H3 (.ok (.bl false) S3) (PV g Q) := ev3.ok r3
      rw [if_neg Bool.false_ne_true]
      exact fin_val r3 ev4 (.pd (.bl _))
  · exact ev3.elim
theorem px_chain {op op' : CmpOp} {f f' : D → D → Sto → Out D} (ho : OpX X g (compareOp op) f) (ho' : OpX X g (compareOp op') f') (ha : PE X a (T g E ma)) (hb : PE X b (T g E mb)) (hc : PE X c (T g E mc))
    (hm : lastMarks [op, op'] [b, c] = false := by with_unfolding_all rfl) : PE X (.Compare a [op, op'] [b, c] pos) (T g E (eChain f f' ma mb mc)) := by
  obtain ⟨r, hr, hs⟩ := OpX.has ho E
  obtain ⟨r', hr', hs'⟩ := OpX.has ho' E
  exact PE.imp (pe_chain hr hr' ha hb hc hm) fun σ H Q h => chainX_of hs hs' h
theorem pt_chainX {op op' : CmpOp} {f f' : D → D → Sto → Out D} (ho : OpX X g (compareOp op) f) (ho' : OpX X g (compareOp op') f') (ha : PE X a (T g E ma)) (hb : PE X b (T g E mb)) (hc : PE X c (T g E mc))
    (hm : lastMarks [op, op'] [b, c] = false := by with_unfolding_all rfl) : PT X (.Compare a [op, op'] [b, c] pos) (TB g E (eTest (eChain f f' ma mb mc))) := by
  obtain ⟨r, hr, hs⟩ := OpX.has ho E
  obtain ⟨r', hr', hs'⟩ := OpX.has ho' E
  refine PT.imp (pt_chain hr hr' ha hb hc hm) fun σ H Q h => ?_
  obtain ⟨L, σd, S, rp, sl, ev⟩ := h
  refine chainX_of (Q := fun x H' => ∃ k, x = .bl k ∧ Q k H') hs hs' ⟨L, σd, S, rp, sl, ev.step fun d S' L' H' x r' ev' v dn => ?_⟩
  exact asB_ok r' dn ev'

/-! ### truth -/
def truD (S : Sto) : D → Option Bool
  | .pd .none => some false
  | .pd (.bool b) => some b
  | .pd (.int i) => some (i != 0)
  | .pd (.str x) => if x.length ≤ sizeLine then some (x.length != 0) else none
  | .pd (.list xs) => some (!xs.isEmpty)
  | .pd (.tuple xs) => some (!xs.isEmpty)
  | .pd (.dict kvs) => none
  | .ref n => match S[n]? with
    | some (.lst xs) => some (!xs.isEmpty)
    | some (.dct kvs) => some (!kvs.isEmpty)
    | _ => none
  | .glob _ => none
  | .xt _ => none
def tru : D → DM Bool := fun d _ S => ofO (truD S d) S
def eTru (m : DM D) : DM Bool := mBind m tru
theorem isEmpty_len {α β : Type} {xs : List α} {ys : List β} (h : xs.length = ys.length) : xs.isEmpty = ys.isEmpty := by
  cases xs <;> cases ys <;> simp at h ⊢
theorem truD_ok (hk : X.K = g.K) (r : RepS g L S H) (dn : Den g L H d v) {k : Bool} (e : truD S d = some k) : TruV X.K v H k := by
  unfold truD at e
  split at e
  · cases e; cases den_non dn; rfl
  · cases e; cases den_bl dn; rfl
  · cases e; cases den_int dn; rfl
  · split at e
    · cases e; cases den_str dn
      rename_i hz
      exact ⟨hz, by
        rename_i z
        cases z.length <;> rfl⟩
    · cases e
  · cases e
    obtain ⟨a, vs, rfl, rd, dz⟩ := den_lst dn
    exact .inl ⟨vs, .inl rd, by rw [isEmpty_len dz.len]⟩
  · cases e
    obtain ⟨a, vs, rfl, rd, dz⟩ := den_tup dn
    exact .inr (.inl ⟨vs, by rw [hk]; exact rd, by rw [isEmpty_len dz.len]⟩)
  · cases e
  · rename_i n
    cases dn with
    | ref hn =>
      split at e
      · rename_i xs hs
        cases e
        obtain ⟨a, ha, od⟩ := r.ob hs
        rw [hn] at ha
        cases ha
        cases od with
        | lst q ds => exact .inl ⟨_, .inl (.inl q), by rw [isEmpty_len (Paired.len ds)]⟩
      · rename_i xs hs
        cases e
        obtain ⟨a, ha, od⟩ := r.ob hs
        rw [hn] at ha
        cases ha
        cases od with
        | dct q ds => exact .inr (.inr ⟨_, q, by rw [isEmpty_len (Paired.len ds)]⟩)
      · cases e
  · cases e
  · cases e
theorem tru_okD (hk : X.K = g.K) (r : RepS g L S H) (dn : Den g L H d v) {Q : Bool → Hp → Prop} (ev : Ev g E L H (tru d σd S) (PB Q)) : ∃ k, TruV X.K v H k ∧ Q k H := by
  unfold tru at ev
  cases e : truD S d with
  | none => rw [e] at ev; exact ev.elim
  | some k => rw [e] at ev; exact ⟨k, truD_ok hk r dn e, ev.ok r⟩
/-- any expression as a test -/
theorem pt_tru (hk : X.K = g.K) (ha : PE X a (T g E ma)) (he : ∀ whole, isTrue a X.env whole = (do let v ← whole; standAt a.pos; holding [v] (truthy v)) := by intro _; rfl) : PT X a (TB g E (eTru ma)) :=
  PT.imp (pt_truth ha he) fun σ H Q ⟨L, σd, S, rp, sl, ev⟩ => ⟨L, σd, S, rp, sl, ev.step fun d S' L' H' x r' ev' v dn => tru_okD hk r' dn ev'⟩
def bNot (m : DM Bool) : DM Bool := mBind m fun k => mRet (!k)
def bAnd (m n : DM Bool) : DM Bool := mBind m fun k => if k then n else mRet false
def bOr (m n : DM Bool) : DM Bool := mBind m fun k => if k then mRet true else n
theorem pt_notX (ha : PT X a (TB g E na)) : PT X (.UnaryOp .Not a pos) (TB g E (bNot na)) :=
  PT.imp (pt_not ha) fun σ H Q ⟨L, σd, S, rp, sl, ev⟩ => ⟨L, σd, S, rp, sl, ev.step fun k S' L' H' x r' ev' => ev'.ok r'⟩
theorem pw_and1X (ha : PT X a (TB g E na)) : PW X (.BoolOp .And [a] pos) (TB g E na) := pw_and1 ha
theorem pw_or1X (ha : PT X a (TB g E na)) : PW X (.BoolOp .Or [a] pos) (TB g E na) := pw_or1 ha
theorem pw_andX {rest : List Expr} (ha : PT X a (TB g E na)) (hb : PW X (.BoolOp .And (b :: rest) pos) (TB g E nb)) : PW X (.BoolOp .And (a :: b :: rest) pos) (TB g E (bAnd na nb)) :=
  PW.imp (pw_and ha hb) fun σ H Q ⟨L, σd, S, rp, sl, ev⟩ => ⟨L, σd, S, rp, sl, ev.step fun k S' L' H' x r' ev' => by
    cases k with
    | true => exact ⟨L', σd, S', r', sl.ext rp x, ev'⟩
    | false => exact Ev.ok (a := false) (P := PB Q) (E := E) ev' r'⟩
theorem pw_orX {rest : List Expr} (ha : PT X a (TB g E na)) (hb : PW X (.BoolOp .Or (b :: rest) pos) (TB g E nb)) : PW X (.BoolOp .Or (a :: b :: rest) pos) (TB g E (bOr na nb)) :=
  PW.imp (pw_or ha hb) fun σ H Q ⟨L, σd, S, rp, sl, ev⟩ => ⟨L, σd, S, rp, sl, ev.step fun k S' L' H' x r' ev' => by
    cases k with
    | false => exact ⟨L', σd, S', r', sl.ext rp x, ev'⟩
    | true => exact Ev.ok (a := true) (P := PB Q) (E := E) ev' r'⟩
/-- and, or, not as values -/
def eNot (m : DM D) : DM D := mBind (eTru m) fun k => eK (.bl (!k))
def eAnd (m n : DM D) : DM D := mBind m fun x => mBind (tru x) fun k => if k then n else eK x
def eOr (m n : DM D) : DM D := mBind m fun x => mBind (tru x) fun k => if k then eK x else n
theorem px_not (hk : X.K = g.K) (ha : PE X a (T g E ma)) : PE X (.UnaryOp .Not a pos) (T g E (eNot ma)) :=
  PE.imp (pe_notT ha) fun σ H Q ⟨L, σd, S, rp, sl, ev⟩ => ⟨L, σd, S, rp, sl, (Ev.bind ev).step fun d S' L' H' x r' ev' v dn => by
    have ev2 : Ev g E L' H' (tru d σd S') (PB fun k H => Q (.bl (!k)) H) := ev'.imp fun k S2 L2 H2 x2 r2 e2 => fin_val r2 e2 (.pd (.bl _))
    exact tru_okD hk r' dn ev2⟩
theorem px_one {op} (ha : PE X a (T g E ma)) : PE X (.BoolOp op [a] pos) (T g E ma) := pe_one ha
theorem px_and (hk : X.K = g.K) {rest : List Expr} (ha : PE X a (T g E ma)) (hb : PE X (.BoolOp .And (b :: rest) pos) (T g E mb)) : PE X (.BoolOp .And (a :: b :: rest) pos) (T g E (eAnd ma mb)) :=
  PE.imp (pe_andT ha hb) fun σ H Q ⟨L, σd, S, rp, sl, ev⟩ => ⟨L, σd, S, rp, sl, ev.step fun d S' L' H' x r' ev' v dn => by
    unfold mBind tru at ev'
    cases e : truD S' d with
    | none => rw [e] at ev'; exact ev'.elim
    | some k =>
      rw [e] at ev'
      refine ⟨k, truD_ok hk r' dn e, ?_⟩
      have ev2 : Ev g E L' H' ((if k = true then mb else eK d) σd S') (PV g Q) := ev'
      cases k with
      | true => exact ⟨L', σd, S', r', sl.ext rp x, ev2⟩
      | false => exact fin_val r' ev2 dn⟩
theorem px_or (hk : X.K = g.K) {rest : List Expr} (ha : PE X a (T g E ma)) (hb : PE X (.BoolOp .Or (b :: rest) pos) (T g E mb)) : PE X (.BoolOp .Or (a :: b :: rest) pos) (T g E (eOr ma mb)) :=
  PE.imp (pe_orT ha hb) fun σ H Q ⟨L, σd, S, rp, sl, ev⟩ => ⟨L, σd, S, rp, sl, ev.step fun d S' L' H' x r' ev' v dn => by
    unfold mBind tru at ev'
    cases e : truD S' d with
    | none => rw [e] at ev'; exact ev'.elim
    | some k =>
      rw [e] at ev'
      refine ⟨k, truD_ok hk r' dn e, ?_⟩
      have ev2 : Ev g E L' H' ((if k = true then eK d else mb) σd S') (PV g Q) := ev'
      cases k with
      | false => exact ⟨L', σd, S', r', sl.ext rp x, ev2⟩
      | true => exact fin_val r' ev2 dn⟩
/-- a if t else b -/
def eIf (t : DM Bool) (m n : DM D) : DM D := mBind t fun k => if k then m else n
theorem px_ifExp (hc : PT X c (TB g E nc)) (ha : PE X a (T g E ma)) (hb : PE X b (T g E mb)) : PE X (.IfExp c a b pos) (T g E (eIf nc ma mb)) :=
  PE.imp (pe_ifExp hc ha hb) fun σ H Q ⟨L, σd, S, rp, sl, ev⟩ => ⟨L, σd, S, rp, sl, ev.step fun k S' L' H' x r' ev' => by
    cases k with
    | true => exact ⟨L', σd, S', r', sl.ext rp x, ev'⟩
    | false => exact ⟨L', σd, S', r', sl.ext rp x, ev'⟩⟩
/-- -a -/
def uNeg : D → Sto → Out D := fun x S => match x with
  | .pd (.int i) => .ok (.int (-i)) S
  | _ => .stuck
def eUn (op : D → Sto → Out D) (m : DM D) : DM D := mBind m fun x => fun _ S => op x S
theorem px_neg (ha : PE X a (T g E ma)) : PE X (.UnaryOp .USub a pos) (T g E (eUn uNeg ma)) :=
  PE.imp (pe_un un_neg ha) fun σ H Q ⟨L, σd, S, rp, sl, ev⟩ => ⟨L, σd, S, rp, sl, ev.step fun d S' L' H' x r' ev' v dn => by
    unfold uNeg at ev'
    split at ev'
    · cases den_int dn
      exact ⟨_, rfl, fin_val r' ev' (.pd (.int _))⟩
    · exact ev'.elim⟩

/-! ### arguments, displays -/
def lNil : DM (List D) := mRet []
def lCons (m : DM D) (n : DM (List D)) : DM (List D) := mBind m fun x => mBind n fun xs => mRet (x :: xs)
variable {es : List Expr} {e : Expr} {ml : DM (List D)}
theorem px_nil : PA X [] (TL g E lNil) := PA.imp pa_nil fun σ H Q ⟨L, σd, S, rp, sl, ev⟩ => ev.ok rp [] .nil
theorem px_cons (ha : PE X e (T g E ma)) (hr : PA X es (TL g E ml)) (hs : starEach (e :: es) X.env = (false, eval e X.env) :: starEach es X.env := by rfl) : PA X (e :: es) (TL g E (lCons ma ml)) :=
  PA.imp (pa_cons ha hr hs) fun σ H Q ⟨L, σd, S, rp, sl, ev⟩ => ⟨L, σd, S, rp, sl, ev.step fun d S' L' H' x r' ev' v dn =>
    ⟨L', σd, S', r', sl.ext rp x, ev'.step fun ds S2 L2 H2 x2 r2 ev2 vs dns => ev2.ok r2 (v :: vs) (.cons (dn.ext r' x2) dns)⟩⟩
def mkTup : List D → DM D := fun ds _ S => match pdL ds with
  | some xs => if xs.length ≤ sizeLine then .ok (.tup xs) S else .stuck
  | none => .stuck
def mkLst : List D → DM D := fun ds _ S => match pdL ds with
  | some xs => if xs.length ≤ sizeLine then .ok (.lst xs) S else .stuck
  | none => .stuck
def mkLstM : List D → DM D := fun ds _ S => if ds.length ≤ sizeLine then .ok (.ref S.length) (S ++ [.lst ds]) else .stuck
def eTup (m : DM (List D)) : DM D := mBind m mkTup
def eLst (m : DM (List D)) : DM D := mBind m mkLst
def eLstM (m : DM (List D)) : DM D := mBind m mkLstM
theorem px_tup {x1} (h : PA X es (TL g E ml)) : PE X (.Tuple es x1 pos) (T g E (eTup ml)) :=
  PE.imp (pe_tup h) fun σ H Q ⟨L, σd, S, rp, sl, ev⟩ => ⟨L, σd, S, rp, sl, ev.step fun ds S' L' H' x r' ev' vs dns => by
    unfold mkTup at ev'
    split at ev'
    · rename_i xs ex
      split at ev'
      · rename_i hz
        have z := dens_dz (pdL_eq ex ▸ dns)
        exact ⟨by rw [z.len]; exact hz, fin_tup r' ev' z⟩
      · exact ev'.elim
    · exact ev'.elim⟩
theorem px_lst (h : PA X es (TL g E ml)) : PE X (.List es pos) (T g E (eLst ml)) :=
  PE.imp (pe_lst h) fun σ H Q ⟨L, σd, S, rp, sl, ev⟩ => ⟨L, σd, S, rp, sl, ev.step fun ds S' L' H' x r' ev' vs dns => by
    unfold mkLst at ev'
    split at ev'
    · rename_i xs ex
      split at ev'
      · rename_i hz
        have z := dens_dz (pdL_eq ex ▸ dns)
        exact ⟨by rw [z.len]; exact hz, fin_lst r' ev' z⟩
      · exact ev'.elim
    · exact ev'.elim⟩
theorem px_lstM (h : PA X es (TL g E ml)) : PE X (.List es pos) (T g E (eLstM ml)) :=
  PE.imp (pe_lst h) fun σ H Q ⟨L, σd, S, rp, sl, ev⟩ => ⟨L, σd, S, rp, sl, ev.step fun ds S' L' H' x r' ev' vs dns => by
    unfold mkLstM at ev'
    split at ev'
    · rename_i hz
      exact ⟨by rw [← Paired.len dns]; exact hz, fin_lstM r' ev' dns⟩
    · exact ev'.elim⟩

/-! ### subscripts, slices -/
def opIx : D → D → Sto → Out D := fun x y S => match x, y with
  | .pd (.str z), .pd (.int i) => if z.length ≤ sizeLine then (match atI z.cps.toList i with
    | some c => .ok (.str ⟨#[c]⟩) S
    | none => .stuck) else .stuck
  | x, .pd (.int i) => match asQ S x with
    | some xs => ofO (atI xs i) S
    | none => .stuck
  | _, _ => .stuck
theorem paired_atI {ds : List D} {vs : List V} (h : Dens g L H ds vs) {i : Int} (e : atI ds i = some d) : ∃ v, atI vs i = some v ∧ Den g L H d v := by
  unfold atI at e ⊢
  rw [← Paired.len h]
  cases q : ixN ds.length i with
  | none => rw [q] at e; cases e
  | some j =>
    rw [q] at e
    exact Paired.get h e
theorem px_ix (hk : X.K = g.K) (ha : PE X a (T g E ma)) (hb : PE X b (T g E mb)) (hs : PlainIx b := by exact fun _ _ => rfl) : PE X (.Subscript a b pos) (T g E (eOp opIx ma mb)) := by
  refine PE.imp (pe_ix ix_seq ha hb hs) fun σ H Q h => tOpX_of (fun L S H x y dx dy Q r nx ny ev => ?_) h
  unfold opIx at ev
  split at ev
  · rename_i z i
    split at ev
    · rename_i hz
      split at ev
      · rename_i c hc
        cases den_str nx; cases den_int ny
        exact .inr (.inr ⟨z, i, c, rfl, rfl, hz, hc, fin_val r ev (.pd (.str _))⟩)
      · exact ev.elim
    · exact ev.elim
  · rename_i i _
    split at ev
    · rename_i xs ex
      cases den_int ny
      obtain ⟨p, vs, rfl, rd, dn⟩ := asQ_ok r nx ex
      cases q : atI xs i with
      | none => rw [q] at ev; exact ev.elim
      | some d =>
        rw [q] at ev
        obtain ⟨v, ev', dv⟩ := paired_atI dn q
        rw [← hk] at rd
        rcases rd with rd | rd
        · exact .inl ⟨p, vs, i, v, rfl, rfl, rd, ev', fin_val r ev dv⟩
        · exact .inr (.inl ⟨p, vs, i, v, rfl, rfl, rd, ev', fin_val r ev dv⟩)
    · exact ev.elim
  · exact ev.elim
/-- parts of a slice -/
abbrev TOd (g : G) (E : WX) (m : DM (Option Int)) : TO := fun σ H Q => ∃ L σd S, RepS g L S H ∧ SlDen g L H σd σ ∧ Ev g E L H (m σd S) (fun o _ _ H => Q o H)
theorem PO.imp {o : Option Expr} {t t' : TO} (h : PO X o t) (i : ∀ σ H Q, t' σ H Q → t σ H Q) : PO X o t' := ⟨fun p s σ H Q I q => h.run p s σ H Q I (i σ H Q q)⟩
def asI : D → DM (Option Int) := fun d _ S => match d with
  | .pd (.int i) => .ok (some i) S
  | _ => .stuck
theorem po_noneX : PO X none (TOd g E (mRet none)) := PO.imp po_none fun σ H Q ⟨L, σd, S, rp, sl, ev⟩ => ev.ok rp
theorem po_someX (h : PE X e (T g E ma)) : PO X (some e) (TOd g E (mBind ma asI)) :=
  PO.imp (po_some h) fun σ H Q ⟨L, σd, S, rp, sl, ev⟩ => ⟨L, σd, S, rp, sl, ev.step fun d S' L' H' x r' ev' v dn => by
    unfold asI at ev'
    split at ev'
    · cases den_int dn
      exact ⟨_, rfl, ev'.ok r'⟩
    · exact ev'.elim⟩
/-- the items of xs[lo:hi] -/
def cut {α : Type} (xs : List α) (lo hi : Option Int) : List α := (xs.drop (HT.sIx xs.length 0 lo)).take (HT.sIx xs.length xs.length hi - HT.sIx xs.length 0 lo)
def slD (S : Sto) : D → Option Int → Option Int → Out D := fun d lo hi => match d with
  | .pd (.tuple xs) => .ok (.tup (cut xs lo hi)) S
  | d => match asL S d with
    | some xs => match pdL xs with
      | some zs => .ok (.lst (cut zs lo hi)) S
      | none => .stuck
    | none => .stuck
def eSlice (m : DM D) (lo hi : DM (Option Int)) : DM D := mBind m fun d => mBind lo fun l => mBind hi fun u => fun _ S => slD S d l u
theorem cut_dz {K : PySem.W.Frag} {W : Addr → Prop} {ds : List PyData} {vs : List V} (h : DzAll K W H vs ds) (lo hi : Option Int) : DzAll K W H (cutV vs lo hi) (cut ds lo hi) := by
  unfold cutV cut
  rw [h.len]
  exact (h.drop _).take _
theorem cut_whole {α : Type} {xs : List α} {lo hi : Option Int} (h : HT.sIx xs.length 0 lo = 0 ∧ HT.sIx xs.length xs.length hi = xs.length) : cut xs lo hi = xs := by
  unfold cut
  rw [h.1, h.2, List.drop_zero, Nat.sub_zero, List.take_length]
theorem px_sliceT (hk : X.K = g.K) {lo hi : Option Expr} {l u : DM (Option Int)} {p2 : Pos} (ha : PE X a (T g E ma)) (hl : PO X lo (TOd g E l)) (hu : PO X hi (TOd g E u)) : PE X (.Subscript a (.Slice lo hi none p2) pos) (T g E (eSlice ma l u)) :=
  PE.imp (pe_slice (sl_tupA.or sl_list) ha hl hu) fun σ H Q ⟨L, σd, S, rp, sl, ev⟩ => ⟨L, σd, S, rp, sl, ev.step fun d S1 L1 H1 x1 r1 ev1 v dn =>
    ⟨L1, σd, S1, r1, sl.ext rp x1, ev1.step fun lo S2 L2 H2 x2 r2 ev2 => ⟨L2, σd, S2, r2, (sl.ext rp x1).ext r1 x2, ev2.step fun hi S3 L3 H3 x3 r3 ev3 => by
      have n3 := (dn.ext r1 x2).ext r2 x3
      unfold slD at ev3
      split at ev3
      · rename_i xs
        obtain ⟨p, vs, rfl, rd, dz⟩ := den_tup n3
        refine .inl ⟨p, vs, rfl, by rw [hk]; exact rd, fun hw => ?_, fun _ => fin_tup r3 ev3 (cut_dz dz _ _)⟩
        rw [dz.len] at hw
        rw [cut_whole hw] at ev3
        exact fin_val r3 ev3 n3
      · split at ev3
        · rename_i xs ex
          split at ev3
          · rename_i zs ez
            obtain ⟨p, vs, rfl, rd, dn'⟩ := asL_ok r3 n3 ex
            have z := dens_dz (pdL_eq ez ▸ dn')
            exact .inr ⟨p, vs, rfl, .inl rd, fin_lst r3 ev3 (cut_dz z _ _)⟩
          · exact ev3.elim
        · exact ev3.elim⟩⟩⟩
/-- xs[::-1] of a list -/
def eRevL (m : DM D) : DM D := mBind m fun d => fun _ S => match asL S d with
  | some xs => match pdL xs with
    | some zs => .ok (.lst zs.reverse) S
    | none => .stuck
  | none => .stuck
theorem px_revL {k : Nat} {p1 p2 p3 : Pos} (ha : PE X a (T g E ma)) : PE X (.Subscript a (.Slice none none (some (.UnaryOp .USub (.Constant (.int 1) k p1) p2)) p3) pos) (T g E (eRevL ma)) :=
  PE.imp (pe_revL ha) fun σ H Q ⟨L, σd, S, rp, sl, ev⟩ => ⟨L, σd, S, rp, sl, ev.step fun d S' L' H' x r' ev' v dn => by
    cases e : asL S' d with
    | none => simp only [e] at ev'; exact ev'.elim
    | some xs =>
      simp only [e] at ev'
      cases e2 : pdL xs with
      | none => simp only [e2] at ev'; exact ev'.elim
      | some zs =>
        simp only [e2] at ev'
        obtain ⟨p, vs, rfl, rd, dn'⟩ := asL_ok r' dn e
        have z := dens_dz (pdL_eq e2 ▸ dn')
        exact ⟨p, vs, rfl, .inl rd, fin_lst r' ev' z.rev⟩⟩
end
end DL
end
section
namespace DL
open PySem PySem.Spec PyProof.Rows L2

/-! ### defs run where no repr is under way -/
structure RoomG (k : Nat) (A : Around) : Prop where
  rm : Room k A
  gd : A.guards = some []
theorem RoomG.mono {j k : Nat} {A : Around} (r : RoomG k A) (h : j ≤ k) : RoomG j A := ⟨r.rm.mono h, r.gd⟩
theorem RoomG.deeper {k : Nat} {A : Around} (r : RoomG (k + 1) A) (env : Env) : RoomG k (A.deeper env) := ⟨r.rm.deeper env, r.gd⟩
structure FnG (P : Program) (w : World) (K : PySem.W.Frag) (mg : Str → Option Value) (base : Heap) (k : Nat) (f : Addr) (fd : FuncData) (ps : List Str) (sp : Sp) : Prop where
  len : ∀ vs H Q E, sp vs H Q E → vs.length = ps.length
  run : ∀ (A : Around) (outer : List Env) (s : Shared) (H : Hp) (args : Args) (us : List Value) (vs : List V) (Q : VK) (E : XK), RoomG k A → Env0 P w K mg base A outer s H → BindsTo s fd args (ps.zip us) → Vals vs us → sp vs H Q E →
    codeAny (model P w) A (.call (.ref f) args) (CR (L2.CX P w) outer P w H s Q E) s
section
variable {P : Program} {w : World} {K : PySem.W.Frag} {mg : Str → Option Value} {base : Heap}
theorem FnG.mono {j k : Nat} {f : Addr} {fd : FuncData} {ps : List Str} {sp : Sp} (F : FnG P w K mg base j f fd ps sp) (h : j ≤ k) : FnG P w K mg base k f fd ps sp :=
  ⟨F.len, fun A outer s H args us vs Q E hr => F.run A outer s H args us vs Q E (hr.mono h)⟩
theorem Fun.okG {x qual : Str} {st : Stmt} {f : Addr} {fd : FuncData} {N ps : List Str} {k : Nat} {sp : Sp} (F : Fun K x qual st f fd) (S : FnScope N ps (defScope st)) (len : ∀ vs H Q E, sp vs H Q E → vs.length = ps.length)
    (hbody : ∀ (cdv : Value) (A : Around) (outer : List Env) (s : Shared) (H : Hp) (vs : List V) (Q : VK) (E : XK), RoomG k (A.deeper (envOfC qual (defScope st) s.heap.objs.size f cdv)) → sp vs H Q E →
      ∃ t, PSs (cxOf (L2.CX P w) P w K mg base N qual (defScope st) f cdv A outer s H E) (defBody st) t ∧ t { nx := fun _ H' => Q .non H', rt := Q } (start N vs) H) : FnG P w K mg base (k + 1) f fd ps sp := by
  obtain ⟨oc, od, kV, doc, pm, an, cdv, ct, osl, rfl, lk, hcd⟩ := F.ex
  refine ⟨len, fun A outer s H args us vs Q E hr e0 hb r hsp => ?_⟩
  have hl := len _ _ _ _ hsp
  have KX : K.In s.heap := e0.mod.kin.keeps fun b o e => (e0.bs b o e).1
  have lim : s.heap.NoLimit := e0.mod.nolimit.keeps fun b o e => (e0.bs b o e).1
  have hkind : ∀ y ∈ ps.zip us, (defScope st).names.lookup y.1 = some .local ∨ ((defScope st).names.lookup y.1 = some .cell ∧ ((cellsFrom (s.heap.objs.size + 1) (defScope st).names []).lookup y.1).isSome = true) := by
    rintro ⟨n, v⟩ hy
    exact (S.par n (List.of_mem_zip hy).1).elim .inl fun q => .inr ⟨q, PySem.W.cellsFrom_some _ _ _ (.inl q)⟩
  refine codeAny_call_function hr.rm.depth (KX _ _ lk) rfl S.co S.gen rfl (PySem.W.codeRec_of KX hcd) (hb _ _ _ _ (wpAny_newFunctionEnv_cells S.kind hkind fun env he s1 x => ?_))
  subst he
  refine ⟨lim.keeps x.toInCall.keep, codeAny_func ?_⟩
  obtain ⟨t, ht, hq⟩ := hbody cdv A outer s H vs Q E (hr.deeper _) hsp
  have I := inv_start (CX := L2.CX P w) (E := E) S hr.rm.hd e0 hl r x
  refine wpAny_mono (ht.run [] s1 (start N vs) H _ I hq) (fun fl s' hs => ?_) fun e s' hs => hs
  cases fl with
  | ret u =>
    obtain ⟨v, σ', H', J, rv, q⟩ := hs
    exact ⟨v, H', J.os, J.bare, J.base, J.hok, rv, q⟩
  | next =>
    obtain ⟨σ', H', J, q⟩ := hs
    exact ⟨V.non, H', J.os, J.bare, J.base, J.hok, rfl, q⟩
  | brk =>
    obtain ⟨_, _, _, q⟩ := hs
    exact q.elim
  | cont =>
    obtain ⟨_, _, _, q⟩ := hs
    exact q.elim
end
section
variable {X : Cx} {k : Nat} {f : Addr} {fd : FuncData} {ps : List Str} {sp : Sp} {ds : List Value} {E : L2.St → XK} {x : Str} {p pos : Pos} {e : Expr} {es : List Expr} {t : TA}
theorem run_fnG {pins : List (Addr × Obj)} {σ : L2.St} {H : Hp} {s : Shared} {Q : VK} {us : List Value} {vs : List V} (F : FnG X.prog X.w X.K X.mg X.base k f fd ps sp) (hr : RoomG k X.A) (hb : Binds X.K fd ps []) (hx : PassesAt (L2.CX X.prog X.w) X σ (E σ))
    (I : Inv X pins σ H s) (r : Vals vs us) (h : sp vs H Q (E σ)) : wpAny (model X.prog X.w) X.A (call (.ref f) us) (EP X pins σ Q) X.xe s := by
  have hl : (us ++ []).length = ps.length := by rw [List.append_nil, ← r.length]; exact F.len _ _ _ _ h
  have hb' := hb s us I.kIn hl
  rw [List.append_nil] at hb'
  refine wpAny_call (codeAny_mono (F.run X.A X.stack s H ⟨us, []⟩ us vs Q (E σ) hr I.env0 hb' r h) fun r s' hq => ?_)
  match r, hq with
  | .error e, hq => exact hx pins H s e s' I hq
  | .ok (.ret u), hq => exact I.after hq
  | .ok .next, hq => exact False.elim hq
  | .ok .brk, hq => exact False.elim hq
  | .ok .cont, hq => exact False.elim hq
theorem pe_callG (F : FnG X.prog X.w X.K X.mg X.base k f fd ps sp) (hr : RoomG k X.A) (hg : Gl X x) (hm : X.mg x = some (.ref f)) (hk : PySem.W.keepIn X.K (.ref f) = true) (hb : Binds X.K fd ps []) (hx : ∀ σ, PassesAt (L2.CX X.prog X.w) X σ (E σ))
    (ha : PA X (e :: es) t) (hdb : (x == ("__debug__" : Str)) = false := by decide) (he : starEach (e :: es) X.env = (false, eval e X.env) :: starEach es X.env := by rfl) (hpl : (backTo pos (starEach es X.env)).any (·.1) = false := by rfl) :
    PE X (.Call (.Name x p) (e :: es) [] pos) (fun σ H Q => t σ H fun vs H1 => sp vs H1 Q (E σ)) := by
  refine ⟨fun pins s σ H Q I h => ?_⟩
  refine wpAny_Call_Name_kw (ld_glob I hg hm ?_ hdb)
  exact PySem.W.callWith_K (h₀ := X.base) I.ok.mod.kin hk (thn (ha.run pos pins s σ H _ I h) fun us s1 ⟨vs, H1, I1, r, q⟩ => ⟨I1.kIn, run_fnG F hr hb (hx σ) I1 r q⟩) he hpl
end

/-! ### the end: the law called on a script -/
/-- the abstract heap in which nothing but the script is told, as a list that stays -/
def scriptH (a : Addr) (vs : List Value) (ns : List Int) : Hp := fun b => if b = a then some (.frz { cls := .type "list", data := .seq vs.toArray } (.lst (ns.map V.int))) else none
theorem law_callG {P : Program} {w : World} {K : PySem.W.Frag} {mg mb : Str → Option Value} {k : Nat} {fa a : Addr} {fd : FuncData} {x : Str} {sp : Sp} {s₁ : Shared} {vs : List Value} {ns : List Int}
    (KX : K.In s₁.heap) (hns : s₁.heap.Ns mainGlobals mg) (hb : s₁.heap.Ns builtinsNs mb) (hbb : ∀ x : Str, x ≠ "__name__" → mb x = bootBuiltins x) (hlim : s₁.heap.NoLimit) (hg : s₁.gens = #[])
    (ha : s₁.heap.get? a = some { cls := .type "list", data := .seq vs.toArray }) (hi : IntsAre vs ns) (hl : ns.length ≤ sizeLine) (hr : RoomG k callerA)
    (F : ∀ base : Heap, K.In base → base.Ns mainGlobals mg → FnG P w K mg base k fa fd [x] sp) (hbind : ∀ (s : Shared) (u : Value), BindsTo s fd ⟨[u], []⟩ [(x, u)])
    (hKa : K.lookup a = none) (hsp : ∀ H : Hp, Rd H a (.lst (ns.map V.int)) → sp [.ref a] H (fun v _ => v = .bl true) fun _ _ _ => False)
    (hCX : ∀ H e s', L2.CX P w [] H s₁ (fun _ _ _ => False) e s' → False) :
    codeAny (model P w) callerA (.call (.ref fa) ⟨[.ref a], []⟩) (fun r s' => r = .ok (.ret (.bool true)) ∧ OldK s₁.heap s'.heap ∧ s'.os = s₁.os ∧ AllBare s'.gens) s₁ := by
  have rv := vals_ints hi
  have lenV := hi.length
  have core : ∀ H : Hp, Only H → Rd H a (.lst (ns.map V.int)) → HOk P w H s₁.heap → (∀ b, H b ≠ none → b = a ∧ K.lookup b = none) →
      codeAny (model P w) callerA (.call (.ref fa) ⟨[.ref a], []⟩) (fun r s' => r = .ok (.ret (.bool true)) ∧ OldK s₁.heap s'.heap ∧ s'.os = s₁.os ∧ AllBare s'.gens) s₁ := by
    intro H hO hS hok hA
    have notA : ∀ {b : Addr} {o : Obj}, s₁.heap.get? b = some o → (∀ q : H b ≠ none, False) → (hidT s₁.heap H).get? b = some o := fun {b o} e n => hidT_get e (by
      cases q : H b with
      | none => rfl
      | some u => exact (n (by rw [q]; simp)).elim)
    have nsK : ∀ {b : Addr} {m : Str → Option Value}, s₁.heap.Ns b m → (hidT s₁.heap H).Ns b m := by
      rintro b m ⟨o, es, ep, e, d, r⟩
      have hne : H b ≠ none → False := fun q => by
        obtain ⟨rfl, _⟩ := hA b q
        rw [ha] at e; cases e
        have d' : Data.seq vs.toArray _ = Data.dict es ep := d
        cases d'
      exact ⟨o, es, ep, notA e hne, d, r⟩
    have hKb : K.In (hidT s₁.heap H) := fun b o e => notA (KX b o e) fun q => by
      rw [(hA b q).2] at e; cases e
    have hM : Mod K mg (hidT s₁.heap H) := ⟨hKb, nsK hns, ⟨mb, nsK hb, hbb⟩, let ⟨mc, h1, h2⟩ := hlim; ⟨mc, nsK h1, h2⟩⟩
    have e0 : Env0 P w K mg (hidT s₁.heap H) callerA [] s₁ H := ⟨rfl, hM, fun b o e => of_hidT e, Nat.le_of_eq (hidT_size _ _), trivial, fun b hb => absurd (show b ∈ ([] : List Addr) from hb) (by simp), hok, .of_eq hg⟩
    refine codeAny_mono ((F _ hKb (nsK hns)).run callerA [] s₁ H ⟨[.ref a], []⟩ [.ref a] [.ref a] _ _ hr e0 (hbind s₁ (.ref a)) (.cons rfl .nil) (hsp H hS)) fun r s' h => ?_
    match r, h with
    | .error e, h => exact (hCX H e s' h).elim
    | .ok .next, h => exact False.elim h
    | .ok .brk, h => exact False.elim h
    | .ok .cont, h => exact False.elim h
    | .ok (.ret u), h =>
      obtain ⟨v, H', os, bare, un, hok', r', q⟩ := h
      cases (show v = .bl true from q)
      cases (show u = Value.bool true from r')
      refine ⟨rfl, OldK.of_keep fun b o e => ?_, os, bare⟩
      cases q : H b with
      | none => exact un.keep b o e q (by intro z; exact absurd (show b ∈ ([] : List Addr) from z) (by simp)) (by simp)
      | some u =>
        rcases hO b with z | ⟨ob, xs, z⟩
        · rw [q] at z; cases z
        · obtain ⟨e1, _⟩ := hok b _ z
          obtain ⟨e2, _⟩ := hok' b _ (un.frzs b ob _ z)
          rw [e] at e1; cases e1
          exact e2
  refine core (scriptH a vs ns) (fun b => ?_) (.inr ⟨{ cls := .type "list", data := .seq vs.toArray }, if_pos rfl⟩) (fun b u z => ?_) (fun b z => ?_)
  · by_cases hb : b = a
    · exact .inr ⟨_, _, if_pos hb⟩
    · exact .inl (if_neg hb)
  · by_cases hb : b = a
    · have z' := (if_pos hb).symm.trans z
      cases z'
      subst hb
      exact ⟨ha, by rw [List.length_map]; exact hl, vs, _, rv, ha⟩
    · have z' := (if_neg hb).symm.trans z
      cases z'
  · by_cases hb : b = a
    · exact ⟨hb, by rw [hb]; exact hKa⟩
    · exact absurd (if_neg hb) z
/-- no list stands in the written part -/
def noLst (K : PySem.W.Frag) : Bool := K.all fun p => !(match p.2.cls with | .type s => s == "list" | _ => false)
theorem noLst_ok {K : PySem.W.Frag} (h : noLst K = true) {a : Addr} {o : Obj} (e : K.lookup a = some o) : o.cls ≠ .type "list" := by
  unfold noLst at h
  rw [List.all_eq_true] at h
  have m : (a, o) ∈ K := by
    clear h
    induction K with
    | nil => cases e
    | cons p r ih =>
      obtain ⟨b, q⟩ := p
      rw [List.lookup_cons] at e
      split at e
      · rename_i hb
        cases e
        rw [show a = b from by simpa using hb]
        exact List.mem_cons_self
      · exact List.mem_cons_of_mem _ (ih e)
  have := h _ m
  intro hc
  rw [hc] at this
  exact absurd this (by decide)
theorem walk_ofG {l : PySem.W.OpenLaw} {n k : Nat} {q : Program} {loose : List Str} {XP : (Str → Option Value) → Heap → Prop} {YP : World → Heap → Prop} {d : DefRec} {K : Params → PySem.W.Frag} {sp : World → Sp} {x : Str}
    (hn : l.most = some n) (hn2 : n ≤ sizeLine) (hdf : d.params.defaults = []) (hr : RoomG k callerA) (hKL : ∀ w : World, noLst (K w.params) = true)
    (hY : ∀ (w : World) (h : Heap), YP w h → (K w.params).In h)
    (F : ∀ (w : World) (mg : Str → Option Value) (fa : Addr) (h : Heap), (K w.params).In h → h.Ns mainGlobals mg → mg d.name = some (.ref fa) →
      ∃ fd : FuncData, (∀ (s : Shared) (u : Value), BindsTo s fd ⟨[u], []⟩ [(x, u)]) ∧
        ∀ base : Heap, (K w.params).In base → base.Ns mainGlobals mg → FnG l.prog w (K w.params) mg base k fa fd [x] (sp w))
    (hsp : ∀ (w : World) (H : Hp) (a : Addr) (ns : List Int), ns.length ≤ n → Rd H a (.lst (ns.map V.int)) → sp w [.ref a] H (fun v _ => v = .bl true) fun _ _ _ => False)
    (hCX : ∀ (w : World) (H : Hp) (s : Shared) (e : Value) (s' : Shared), L2.CX l.prog w [] H s (fun _ _ _ => False) e s' → False) :
    PySem.W.WalkO q loose XP YP l.row.toRowW d [] (fun f vs => PySem.call f vs) := by
  refine Att.attach_call hn hdf fun w s₀ s₁ mg mb fa o pm cd doc a vs ns G Y ho hd hcd hmg hobj hints hlen hg => ?_
  have KX := hY w _ Y
  obtain ⟨fd, hb, hF⟩ := F w mg fa _ KX G.T.g hmg
  have hKa : (K w.params).lookup a = none := by
    cases e : (K w.params).lookup a with
    | none => rfl
    | some o =>
      have e2 := KX a o e
      rw [hobj] at e2
      cases e2
      exact absurd rfl (noLst_ok (hKL w) e)
  exact law_callG KX G.T.g G.T.b G.T.builtins G.T.nolimit hg hobj hints (Nat.le_trans hlen hn2) hr hF hb hKa (fun H hS => hsp w H a ns hlen hS) fun H e s' => hCX w H s₁ e s'
end DL
end
section
namespace DL
open PySem PySem.Spec PyProof.Rows L2

/-! ### defs -/
def noRef : D → Bool
  | .ref _ => false
  | _ => true
def pdOb : Ob → Bool
  | .lst xs => xs.all noRef
  | .dct kvs => kvs.all fun p => noRef p.2
  | .dtt kvs => kvs.all fun p => noRef p.2
  | .ins _ fs => fs.all fun p => noRef p.2
def refsOf : List D → List Nat
  | [] => []
  | .ref n :: r => n :: refsOf r
  | _ :: r => refsOf r
def renum : Nat → List D → List D
  | _, [] => []
  | k, .ref _ :: r => .ref k :: renum (k + 1) r
  | k, d :: r => d :: renum k r
def obsAt (S : Sto) : List Nat → Option (List Ob)
  | [] => some []
  | n :: r => match S[n]?, obsAt S r with
    | some o, some os => some (o :: os)
    | _, _ => none
def putAll (S : Sto) : List Nat → List Ob → Sto
  | n :: r, o :: os => putAll (S.set n o) r os
  | _, _ => S
abbrev DF := List D → Sto → Out D
def callF (n : Nat) (f : DF) (ds : List D) : DM D := fun σ S => match obsAt S (refsOf ds) with
  | some os => if ds.length = n ∧ (refsOf ds).Nodup ∧ os.all pdOb = true then (match f (renum 0 ds) os with
    | .ok d S' => if S'.length = os.length ∧ noRef d = true ∧ S'.all pdOb = true then .ok d (putAll S (refsOf ds) S') else .stuck
    | .exc e _ S' => if S'.length = os.length ∧ S'.all pdOb = true ∧ (e.fs.all fun p => noRef p.2) = true then .exc e σ (putAll S (refsOf ds) S') else .stuck
    | .stuck => .stuck) else .stuck
  | none => .stuck
/-- what is handed back stands by itself -/
def frz (k : Nat) (S : Sto) : D → Option D
  | .ref n => if k ≤ n then (match S[n]? with
    | some (.lst xs) => (pdL xs).map fun ys => .pd (.list ys)
    | _ => none) else none
  | d => some d
def fin (k : Nat) (d : D) (S : Sto) : Out D := match frz k S d with
  | some d' => if (S.take k).all pdOb = true then .ok d' (S.take k) else .stuck
  | none => .stuck
def startD (n : Nat) (ds : List D) : Sl := ds.map some ++ List.replicate (n - ds.length) none
def runF (n : Nat) (m : DM Fl) : DF := fun ds S => match m (startD n ds) S with
  | .ok (.ret d) S' => fin S.length d S'
  | .ok (.next _) S' => fin S.length .non S'
  | .ok _ _ => .stuck
  | .exc e _ S' => if (S'.take S.length).all pdOb = true ∧ (e.fs.all fun p => noRef p.2) = true then .exc e [] (S'.take S.length) else .stuck
  | .stuck => .stuck

def spM (K : PySem.W.Frag) (mg : Str → Option Value) (n : Nat) (f : DF) : Sp := fun vs H Q E => vs.length = n ∧ ∃ (W : Addr → Prop) (as : List Addr) (ds : List D) (S : Sto),
  RepS ⟨K, mg, W, H, as⟩ as S H ∧ Dens ⟨K, mg, W, H, as⟩ as H ds vs ∧ Ev ⟨K, mg, W, H, as⟩ (fun c x _ H' => E c x H') as H (f ds S) (PV ⟨K, mg, W, H, as⟩ Q)

section
variable {g g' : G} {E : WX} {L L' : List Addr} {H H' : Hp} {S S' : Sto} {σd : Sl} {σ : St} {v : V} {d : D}
mutual
theorem Dz.anti {K : PySem.W.Frag} {W W' : Addr → Prop} (i : ∀ a, W' a → W a) : ∀ {d : PyData} {v : V}, Dz K W H v d → Dz K W' H v d
  | _, _, .non => .non
  | _, _, .bl b => .bl b
  | _, _, .int b => .int b
  | _, _, .str b => .str b
  | _, _, .lst n r ha => .lst (fun w => n (i _ w)) r (DzAll.anti i ha)
  | _, _, .tup r ha => .tup r (DzAll.anti i ha)
  | _, _, .dct n r h1 h2 => .dct (fun w => n (i _ w)) r (DzAll.anti i h1) (DzAll.anti i h2)
theorem DzAll.anti {K : PySem.W.Frag} {W W' : Addr → Prop} (i : ∀ a, W' a → W a) : ∀ {ds : List PyData} {vs : List V}, DzAll K W H vs ds → DzAll K W' H vs ds
  | _, _, .nil => .nil
  | _, _, .cons h1 h2 => .cons (Dz.anti i h1) (DzAll.anti i h2)
end
/-- what holds no references is the same seen from elsewhere -/
theorem Den.move (hK : g'.K = g.K) (hm : g'.mg = g.mg) (i : ∀ a, g'.wr L' a → g.wr L a) (n : noRef d = true) (h : Den g L H d v) : Den g' L' H d v := by
  cases h with
  | pd h => exact .pd (hK ▸ h.anti i)
  | ref h => exact absurd n Bool.false_ne_true
  | glob h => exact .glob (by rw [hm]; exact h)
  | xt e hd z => exact .xt e hd (hK ▸ z.anti i)
theorem Dens.move (hK : g'.K = g.K) (hm : g'.mg = g.mg) (i : ∀ a, g'.wr L' a → g.wr L a) : ∀ {ds : List D} {vs : List V}, ds.all noRef = true → Dens g L H ds vs → Dens g' L' H ds vs
  | _, _, _, .nil => .nil
  | _, _, n, .cons h t => by
    rw [List.all_cons, Bool.and_eq_true] at n
    exact .cons (h.move hK hm i n.1) (Dens.move hK hm i n.2 t)
theorem kvmove {κ : Type} (hK : g'.K = g.K) (hm : g'.mg = g.mg) (i : ∀ a, g'.wr L' a → g.wr L a) : ∀ {kvs : List (κ × D)} {ws : List (κ × V)}, (kvs.all fun p => noRef p.2) = true → Paired (fun p q => p.1 = q.1 ∧ Den g L H p.2 q.2) kvs ws → Paired (fun p q => p.1 = q.1 ∧ Den g' L' H p.2 q.2) kvs ws
  | _, _, _, .nil => .nil
  | _, _, n, .cons h t => by
    rw [List.all_cons, Bool.and_eq_true] at n
    exact .cons ⟨h.1, h.2.move hK hm i n.1⟩ (kvmove hK hm i n.2 t)
theorem ObDen.move {ob : Ob} {a : Addr} (hK : g'.K = g.K) (hm : g'.mg = g.mg) (i : ∀ a, g'.wr L' a → g.wr L a) (n : pdOb ob = true) (h : ObDen g L H a ob) : ObDen g' L' H a ob := by
  cases h with
  | lst e d => exact .lst e (d.move hK hm i n)
  | dct e d => exact .dct e (kvmove hK hm i n d)
  | dtt e d => exact .dtt e (kvmove hK hm i n d)
  | ins c e d => exact .ins (by rw [hm]; exact c) e (kvmove hK hm i n d)
theorem ExDen.move {e : Exn} {c : Value} {x : Option Addr} (hK : g'.K = g.K) (hm : g'.mg = g.mg) (i : ∀ a, g'.wr L' a → g.wr L a) (n : (e.fs.all fun p => noRef p.2) = true) (h : ExDen g L H e c x) : ExDen g' L' H e c x := by
  have hc : ∀ {k : ECls}, ClsIs g k c → ClsIs g' k c := fun {k} q => by
    cases k with
    | own x => obtain ⟨C, a, b⟩ := q; exact ⟨C, by rw [hm]; exact a, b⟩
    | bt n => exact q
  cases h with
  | none q e => exact .none (hc q) e
  | some q e d => exact .some (hc q) e (kvmove hK hm i n d)
theorem Paired.takeL {α β : Type} {F : α → β → Prop} : ∀ {l : List α} {l' : List β} (n : Nat), Paired F l l' → Paired F (l.take n) (l'.take n)
  | _, _, 0, _ => .nil
  | _, _, _ + 1, .nil => .nil
  | _, _, n + 1, .cons r t => .cons r (Paired.takeL n t)
theorem Paired.memL {α β : Type} {F F' : α → β → Prop} : ∀ {l : List α} {l' : List β}, Paired F l l' → (∀ a b, a ∈ l → b ∈ l' → F a b → F' a b) → Paired F' l l'
  | _, _, .nil, _ => .nil
  | _, _, .cons r t, f => .cons (f _ _ List.mem_cons_self List.mem_cons_self r) (Paired.memL t fun a b ha hb => f a b (List.mem_cons_of_mem _ ha) (List.mem_cons_of_mem _ hb))
/-- back to the objects handed in -/
theorem RepS.trim (r : RepS g L S H) (n : (S.take g.as.length).all pdOb = true) : RepS g g.as (S.take g.as.length) H where
  nd := r.nd.sublist r.pre.sublist
  pre := List.prefix_refl _
  obs := by
    have h := Paired.takeL g.as.length r.obs
    have e : L.take g.as.length = g.as := by
      obtain ⟨t, rfl⟩ := r.pre
      simp
    rw [e] at h
    refine Paired.memL h fun ob a ho ha q => q.move rfl rfl (fun b w => w.imp id fun z => mem_pre r.pre z) (List.all_eq_true.mp n _ ho)
  fresh := fun a h na => absurd h na
  own := fun a h na => absurd h na
  keep := r.keep
  amb := r.amb
  asW := r.asW
theorem Ext.trim {as : List Addr} (x : Ext g as H L' H') : Ext g as H as H' := ⟨List.prefix_refl _, fun _ h n => absurd h n, x.keep, x.there⟩
theorem startD_sl {ds : List D} {vs : List V} {N : List Str} (h : Dens g L H ds vs) : SlDen g L H (startD N.length ds) (L2.start N vs) := by
  intro i d e
  unfold startD at e
  by_cases hi : i < ds.length
  · rw [List.getElem?_append_left (by simpa using hi), List.getElem?_map] at e
    cases q : ds[i]? with
    | none => rw [q] at e; cases e
    | some d' =>
      rw [q] at e
      cases e
      obtain ⟨v, e2, dn⟩ := Paired.get h q
      refine ⟨v, ?_, dn⟩
      unfold L2.start
      rw [List.getElem?_append_left (by simpa [← Paired.len h] using hi), List.getElem?_map, e2]
      rfl
  · rw [List.getElem?_append_right (by simpa using hi), List.getElem?_replicate] at e
    split at e <;> cases e
theorem frz_ok {as : List Addr} {d' : D} (hg : g.as = as) (r : RepS g L S H) (dn : Den g L H d v) (e : frz as.length S d = some d') : Den g as H d' v := by
  unfold frz at e
  split at e
  · rename_i n
    cases dn with
    | ref hn =>
      rename_i a
      split at e
      · rename_i hk
        split at e
        · rename_i xs hs
          cases q : pdL xs with
          | none => rw [q] at e; cases e
          | some ys =>
            rw [q] at e
            cases e
            obtain ⟨a', ha, od⟩ := r.ob hs
            rw [hn] at ha
            cases ha
            cases od with
            | lst q2 ds =>
              rw [pdL_eq q] at ds
              have hna : a ∉ g.as := by
                intro hm
                rw [hg] at hm
                obtain ⟨j, hj, ej⟩ := List.mem_iff_getElem.mp hm
                obtain ⟨t, ht⟩ := r.pre
                have e1 : L[j]? = some a := by
                  rw [← ht, hg, List.getElem?_append_left hj, List.getElem?_eq_getElem hj, ej]
                have hjl := (List.getElem?_eq_some_iff.mp e1).1
                have hnl := (List.getElem?_eq_some_iff.mp hn).1
                have e2 := (List.getElem?_eq_some_iff.mp e1).2
                have e3 := (List.getElem?_eq_some_iff.mp hn).2
                have := (List.getElem_inj r.nd).mp (e2.trans e3.symm)
                omega
              have hno : ¬ g.wr as a := fun w => w.elim (r.own a (List.mem_of_getElem? hn) hna) fun z => hna (by rw [hg]; exact z)
              refine .pd (.lst hno (.inl q2) ((dens_dz ds).anti fun b w => w.imp id fun z => mem_pre r.pre (by rw [hg]; exact z)))
        · cases e
      · cases e
  · cases e
    rename_i hd
    have n : noRef d = true := by
      cases d with
      | ref n => exact absurd rfl (hd n)
      | _ => rfl
    exact dn.move rfl rfl (fun b w => w.imp id fun z => mem_pre r.pre (by rw [hg]; exact z)) n
end

/-- THE RULE: a def of the text, by its body's outcome -/
theorem Fun.dl {P : Program} {w : World} {K : PySem.W.Frag} {mg : Str → Option Value} {base : Heap} {x qual : Str} {st : Stmt} {f : Addr} {fd : FuncData} {N ps : List Str} {k : Nat} {m : DM Fl} (F : Fun K x qual st f fd) (Sc : FnScope N ps (defScope st))
    (hb : ∀ (cdv : Value) (A : Around) (outer : List Env) (s : Shared) (H : Hp) (E : XK) (W : Addr → Prop) (as : List Addr), RoomG k (A.deeper (envOfC qual (defScope st) s.heap.objs.size f cdv)) →
      PSs (cxOf (L2.CX P w) P w K mg base N qual (defScope st) f cdv A outer s H E) (defBody st) (TSt ⟨K, mg, W, H, as⟩ (fun c d _ H => E c d H) m)) :
    FnG P w K mg base (k + 1) f fd ps (spM K mg ps.length (runF N.length m)) := by
  refine Fun.okG F Sc (fun vs H Q E h => h.1) (fun cdv A outer s H vs Q E hr h => ?_)
  obtain ⟨hl, W, as, ds, S, rp, dn, ev⟩ := h
  refine ⟨_, hb cdv A outer s H E W as hr, as, startD N.length ds, S, rp, startD_sl dn, ?_⟩
  have hS : S.length = as.length := Paired.len rp.obs
  unfold runF at ev
  cases em : m (startD N.length ds) S with
  | ok fl S' =>
    rw [em] at ev
    have done : ∀ d, Ev ⟨K, mg, W, H, as⟩ (fun c x _ H' => E c x H') as H (fin S.length d S') (PV ⟨K, mg, W, H, as⟩ Q) →
        ∀ L' H', Ext ⟨K, mg, W, H, as⟩ as H L' H' → RepS ⟨K, mg, W, H, as⟩ L' S' H' → ∀ v, Den ⟨K, mg, W, H, as⟩ L' H' d v → Q v H' := by
      intro d ev L' H' x r v dn'
      unfold fin at ev
      split at ev
      · rename_i d' ed
        split at ev
        · rename_i hp
          rw [hS] at ev ed hp
          exact ev as H' x.trim (r.trim hp) v (frz_ok rfl r dn' ed)
        · exact ev.elim
      · exact ev.elim
    cases fl with
    | ret d => exact fun L' H' x r v dn' => done d ev L' H' x r v dn'
    | next σ => exact fun L' H' x r σ _ => done .non ev L' H' x r .non (.pd .non)
    | brk σ => exact ev.elim
    | cont σ => exact ev.elim
  | exc e σ S' =>
    rw [em] at ev
    dsimp only at ev
    split at ev
    · rename_i hp
      rw [hS] at ev hp
      intro L' H' c x σ y r sl ex
      exact ev as H' c x [] y.trim (r.trim hp.1) (fun i d z => by simp at z) (ex.move rfl rfl (fun b w => w.imp id fun z => mem_pre r.pre z) hp.2)
    · exact ev.elim
  | stuck => rw [em] at ev; exact ev.elim
end DL
end
section
namespace DL
open PySem PySem.Spec PyProof.Rows L2
section
variable {g g' : G} {E : WX} {L L' : List Addr} {H H' : Hp} {S S' : Sto} {σd : Sl} {σ : St} {v : V} {d : D}
def addrsAt (L : List Addr) : List Nat → List Addr
  | [] => []
  | n :: r => L.getD n 0 :: addrsAt L r
theorem addrsAt_mem : ∀ {idx : List Nat} {a : Addr}, a ∈ addrsAt L idx → (∀ i ∈ idx, i < L.length) → ∃ i ∈ idx, L[i]? = some a
  | [], _, h, _ => by cases h
  | n :: r, a, h, hl => by
    rcases List.mem_cons.mp h with rfl | h
    · refine ⟨n, List.mem_cons_self, ?_⟩
      have := hl n List.mem_cons_self
      simp [List.getD, List.getElem?_eq_getElem this]
    · obtain ⟨i, hi, e⟩ := addrsAt_mem h fun i hi => hl i (List.mem_cons_of_mem _ hi)
      exact ⟨i, List.mem_cons_of_mem _ hi, e⟩
theorem obsAt_lt : ∀ {idx : List Nat} {os : List Ob}, obsAt S idx = some os → ∀ i ∈ idx, i < S.length
  | [], _, _, _, h => by cases h
  | n :: r, os, e, i, h => by
    unfold obsAt at e
    split at e
    · rename_i o os' e1 e2
      rcases List.mem_cons.mp h with rfl | h
      · exact (List.getElem?_eq_some_iff.mp e1).1
      · exact obsAt_lt e2 i h
    · cases e
theorem obsAt_len : ∀ {idx : List Nat} {os : List Ob}, obsAt S idx = some os → os.length = idx.length
  | [], _, e => by cases e; rfl
  | n :: r, os, e => by
    unfold obsAt at e
    split at e
    · rename_i o os' e1 e2
      cases e
      rw [List.length_cons, List.length_cons, obsAt_len e2]
    · cases e
theorem addrsAt_len : ∀ idx : List Nat, (addrsAt L idx).length = idx.length
  | [] => rfl
  | n :: r => by rw [addrsAt, List.length_cons, List.length_cons, addrsAt_len r]
theorem addrsAt_get : ∀ {idx : List Nat} {j n : Nat}, idx[j]? = some n → (addrsAt L idx)[j]? = some (L.getD n 0)
  | [], _, _, h => by simp at h
  | m :: r, 0, n, h => by simp at h; subst h; simp [addrsAt]
  | m :: r, j + 1, n, h => by
    simp at h
    simpa [addrsAt] using addrsAt_get h
theorem addrsAt_nodup (nd : L.Nodup) : ∀ {idx : List Nat}, idx.Nodup → (∀ i ∈ idx, i < L.length) → (addrsAt L idx).Nodup
  | [], _, _ => List.nodup_nil
  | n :: r, h, hl => by
    have h' := List.nodup_cons.mp h
    refine List.nodup_cons.mpr ⟨fun hm => ?_, addrsAt_nodup nd h'.2 fun i hi => hl i (List.mem_cons_of_mem _ hi)⟩
    obtain ⟨i, hi, e⟩ := addrsAt_mem hm fun i hi => hl i (List.mem_cons_of_mem _ hi)
    have hn := hl n List.mem_cons_self
    have e2 : L[n]? = some (L.getD n 0) := by simp [List.getD, List.getElem?_eq_getElem hn]
    have a1 := List.getElem?_eq_some_iff.mp e
    have a2 := List.getElem?_eq_some_iff.mp e2
    have := (List.getElem_inj nd).mp (a1.2.trans a2.2.symm)
    subst this
    exact h'.1 hi
theorem getD_of {n : Nat} {a : Addr} (h : L[n]? = some a) : L.getD n 0 = a := by simp [List.getD, h]
/-- the ground of a callee -/
def G.call (g : G) (L : List Addr) (H : Hp) (idx : List Nat) : G := ⟨g.K, g.mg, g.wr L, H, addrsAt L idx⟩
theorem call_wr {idx : List Nat} (hl : ∀ i ∈ idx, i < L.length) {a : Addr} : (g.call L H idx).wr (addrsAt L idx) a ↔ g.wr L a :=
  ⟨fun w => w.elim id fun h => let ⟨_, _, e⟩ := addrsAt_mem h hl; .inr (List.mem_of_getElem? e), fun w => .inl w⟩
theorem call_obs (r : RepS g L S H) {idx : List Nat} (hl : ∀ i ∈ idx, i < L.length) : ∀ {ix : List Nat} {os : List Ob}, (∀ i ∈ ix, i ∈ idx) → obsAt S ix = some os → os.all pdOb = true →
    Paired (fun ob a => ObDen (g.call L H idx) (addrsAt L idx) H a ob) os (addrsAt L ix)
  | [], _, _, e, _ => by cases e; exact .nil
  | n :: rr, os, hs, e, n' => by
    unfold obsAt at e
    split at e
    · rename_i o os' e1 e2
      cases e
      rw [List.all_cons, Bool.and_eq_true] at n'
      obtain ⟨a, ha, od⟩ := r.ob e1
      refine .cons ?_ (call_obs r hl (fun i hi => hs i (List.mem_cons_of_mem _ hi)) e2 n'.2)
      rw [getD_of ha]
      exact od.move (g := g) (g' := g.call L H idx) rfl rfl (fun b w => (call_wr (g := g) (L := L) (H := H) (idx := idx) hl).mp w) n'.1
    · cases e
theorem call_rep (r : RepS g L S H) {idx : List Nat} {os : List Ob} (nd : idx.Nodup) (e : obsAt S idx = some os) (n : os.all pdOb = true) : RepS (g.call L H idx) (addrsAt L idx) os H := by
  have hl : ∀ i ∈ idx, i < L.length := fun i hi => by rw [← Paired.len r.obs]; exact obsAt_lt e i hi
  exact ⟨addrsAt_nodup r.nd nd hl, List.prefix_refl _, call_obs r hl (fun _ h => h) e n, fun a h na => absurd h na, fun a h na => absurd h na, fun a o q _ => q, fun a w => r.wr_there w,
    fun a h => let ⟨_, _, q⟩ := addrsAt_mem h hl; .inr (List.mem_of_getElem? q)⟩
theorem call_dens (r : RepS g L S H) {idx : List Nat} (hl : ∀ i ∈ idx, i < L.length) : ∀ {ds : List D} {vs : List V} (k : Nat), idx.drop k = refsOf ds → Dens g L H ds vs → Dens (g.call L H idx) (addrsAt L idx) H (renum k ds) vs
  | _, _, _, _, .nil => by unfold renum; exact .nil
  | .ref n :: ds, _, k, e, .cons h t => by
    unfold renum
    unfold refsOf at e
    have hk : idx[k]? = some n := by
      have := congrArg (fun l => l[0]?) e
      simpa [List.getElem?_drop] using this
    cases h with
    | ref hn =>
      refine .cons (.ref ?_) (call_dens r hl (k + 1) ?_ t)
      · rw [addrsAt_get hk, getD_of hn]
      · have := congrArg (List.drop 1) e
        simpa [List.drop_drop, Nat.add_comm] using this
  | .pd x :: ds, _, k, e, .cons h t => by
    unfold renum
    unfold refsOf at e
    exact .cons (h.move (g := g) (g' := g.call L H idx) rfl rfl (fun b w => (call_wr (g := g) (L := L) (H := H) (idx := idx) hl).mp w) rfl) (call_dens r hl k e t)
  | .xt x :: ds, _, k, e, .cons h t => by
    unfold renum
    unfold refsOf at e
    exact .cons (h.move (g := g) (g' := g.call L H idx) rfl rfl (fun b w => (call_wr (g := g) (L := L) (H := H) (idx := idx) hl).mp w) rfl) (call_dens r hl k e t)
  | .glob x :: ds, _, k, e, .cons h t => by
    unfold renum
    unfold refsOf at e
    exact .cons (h.move (g := g) (g' := g.call L H idx) rfl rfl (fun b w => (call_wr (g := g) (L := L) (H := H) (idx := idx) hl).mp w) rfl) (call_dens r hl k e t)
theorem putAll_length : ∀ {idx : List Nat} {os : List Ob} {S : Sto}, (putAll S idx os).length = S.length
  | [], _, _ => by unfold putAll; rfl
  | n :: r, [], _ => by unfold putAll; rfl
  | n :: r, o :: os, S => by unfold putAll; rw [putAll_length, List.length_set]
theorem putAll_out : ∀ {idx : List Nat} {os : List Ob} {S : Sto} {i : Nat}, i ∉ idx → (putAll S idx os)[i]? = S[i]?
  | [], _, _, _, _ => by unfold putAll; rfl
  | n :: r, [], _, _, _ => by unfold putAll; rfl
  | n :: r, o :: os, S, i, h => by
    unfold putAll
    rw [putAll_out fun z => h (List.mem_cons_of_mem _ z), List.getElem?_set_ne (show n ≠ i from fun z => h (by rw [z]; exact List.mem_cons_self))]
theorem putAll_in : ∀ {idx : List Nat} {os : List Ob} {S : Sto}, idx.Nodup → (∀ i ∈ idx, i < S.length) → ∀ {j n : Nat} {o : Ob}, idx[j]? = some n → os[j]? = some o → (putAll S idx os)[n]? = some o
  | [], _, _, _, _, _, _, _, h, _ => by simp at h
  | m :: r, [], _, _, _, _, _, _, _, h => by simp at h
  | m :: r, o' :: os, S, nd, hl, 0, n, o, h1, h2 => by
    simp at h1 h2
    subst h1; subst h2
    unfold putAll
    have nd' := List.nodup_cons.mp nd
    rw [putAll_out nd'.1, List.getElem?_set_self (hl m List.mem_cons_self)]
  | m :: r, o' :: os, S, nd, hl, j + 1, n, o, h1, h2 => by
    unfold putAll
    have nd' := List.nodup_cons.mp nd
    exact putAll_in nd'.2 (fun i hi => by rw [List.length_set]; exact hl i (List.mem_cons_of_mem _ hi)) (j := j) (by simpa using h1) (by simpa using h2)
theorem prefix_eq {l l' : List Addr} (p : l <+: l') (h : l'.length = l.length) : l' = l := by
  obtain ⟨t, rfl⟩ := p
  have : t = [] := List.length_eq_zero_iff.mp (by rw [List.length_append] at h; omega)
  rw [this, List.append_nil]
theorem paired_of {α β : Type} {F : α → β → Prop} : ∀ {l : List α} {l' : List β}, l.length = l'.length → (∀ (i : Nat) a b, l[i]? = some a → l'[i]? = some b → F a b) → Paired F l l'
  | [], [], _, _ => .nil
  | [], _ :: _, h, _ => by simp at h
  | _ :: _, [], h, _ => by simp at h
  | a :: l, b :: l', h, f => .cons (f 0 a b rfl rfl) (paired_of (by simpa using h) fun i x y e1 e2 => f (i + 1) x y (by simpa using e1) (by simpa using e2))
/-- behind a call: the caller's state -/
theorem call_back (r : RepS g L S H) {idx : List Nat} {os : List Ob} {S2 : Sto} (nd : idx.Nodup) (e : obsAt S idx = some os) (h2 : S2.length = os.length) (n : S2.all pdOb = true)
    {L2 : List Addr} (x : Ext (g.call L H idx) (addrsAt L idx) H L2 H') (r2 : RepS (g.call L H idx) L2 S2 H') : L2 = addrsAt L idx ∧ Ext g L H L H' ∧ RepS g L (putAll S idx S2) H' := by
  have hl : ∀ i ∈ idx, i < L.length := fun i hi => by rw [← Paired.len r.obs]; exact obsAt_lt e i hi
  have hL : L2 = addrsAt L idx := prefix_eq x.pre (by rw [← Paired.len r2.obs, h2, obsAt_len e, addrsAt_len])
  subst hL
  have sub : ∀ a, a ∈ addrsAt L idx → a ∈ L := fun a h => let ⟨_, _, q⟩ := addrsAt_mem h hl; List.mem_of_getElem? q
  have x' : Ext g L H L H' := ⟨List.prefix_refl _, fun _ h n => absurd h n, fun a o q na => x.keep a o q fun z => na (sub a z), x.there⟩
  refine ⟨rfl, x', r.nd, r.pre, paired_of (by rw [putAll_length]; exact Paired.len r.obs) fun i ob a e1 e2 => ?_, r.fresh, r.own, fun a o q na => ?_, fun a w => r2.amb a (.inl w), r.asW⟩
  · by_cases hi : i ∈ idx
    · obtain ⟨j, hj, ej⟩ := List.mem_iff_getElem.mp hi
      have ej' : idx[j]? = some i := by rw [List.getElem?_eq_getElem hj, ej]
      have hjS : j < S2.length := by rw [h2, obsAt_len e]; exact hj
      have eo : S2[j]? = some S2[j] := List.getElem?_eq_getElem hjS
      have := putAll_in (S := S) nd (fun i hi => obsAt_lt e i hi) ej' eo
      rw [this] at e1
      obtain ⟨a2, ea, od⟩ := Paired.get r2.obs eo
      have ea2 := addrsAt_get (L := L) ej'
      rw [ea2, getD_of e2] at ea
      cases ea
      cases e1
      refine od.move (g := g.call L H idx) (g' := g) rfl rfl (fun b w => (call_wr (g := g) (L := L) (H := H) (idx := idx) hl).mpr w) (List.all_eq_true.mp n _ (List.getElem_mem hjS))
    · rw [putAll_out hi] at e1
      obtain ⟨a2, ea, od⟩ := Paired.get r.obs e1
      rw [e2] at ea
      cases ea
      refine od.ext r x' fun o q => x.keep a o q fun z => ?_
      obtain ⟨j, hj, q2⟩ := addrsAt_mem z hl
      have a1 := List.getElem?_eq_some_iff.mp e2
      have a3 := List.getElem?_eq_some_iff.mp q2
      have := (List.getElem_inj r.nd).mp (a1.2.trans a3.2.symm)
      subst this
      exact hi hj
  · refine x.keep a o (r.keep a o q na) fun z => ?_
    have := r.fresh a (sub a z) na
    rw [q] at this; cases this
variable {X : Cx} {ml : DM (List D)} {es : List Expr} {e : Expr} {p pos : Pos} {x : Str} {k n : Nat} {f : Addr} {fd : FuncData} {ps : List Str} {fm : DF}
theorem call_reads (hK : X.K = g.K) (hmg : X.mg = g.mg) {Q : VK} (h : T g E (mBind ml (callF n fm)) σ H Q) : TL g E ml σ H (fun vs H1 => spM X.K X.mg n fm (vs ++ []) H1 Q (WE E σ)) := by
  obtain ⟨L, σd, S, rp, sl, ev⟩ := h
  refine ⟨L, σd, S, rp, sl, ev.step fun ds S1 L1 H1 x1 r1 ev1 vs dn => ?_⟩
  show spM X.K X.mg n fm (vs ++ []) H1 Q (WE E σ)
  rw [List.append_nil]
  unfold callF at ev1
  split at ev1
  · rename_i os eo
    split at ev1
    · rename_i hc
      obtain ⟨hn, nd, hp⟩ := hc
      have hl : ∀ i ∈ refsOf ds, i < L1.length := fun i hi => by rw [← Paired.len r1.obs]; exact obsAt_lt eo i hi
      refine ⟨by rw [← Paired.len dn]; exact hn, g.wr L1, addrsAt L1 (refsOf ds), renum 0 ds, os, ?_, ?_, ?_⟩
      · rw [hK, hmg]; exact call_rep r1 nd eo hp
      · rw [hK, hmg]; exact call_dens r1 hl 0 rfl dn
      · rw [hK, hmg]
        show Ev (g.call L1 H1 (refsOf ds)) _ _ _ _ _
        split at ev1
        · rename_i d S2 ef
          split at ev1
          · rename_i hd
            rw [ef]
            intro L' H' x r' v dn'
            obtain ⟨rfl, x2, r2⟩ := call_back r1 nd eo hd.1 hd.2.2 x r'
            exact ev1 L1 H' x2 r2 v (dn'.move (g := g.call L1 H1 (refsOf ds)) (g' := g) rfl rfl (fun b w => (call_wr (g := g) (L := L1) (H := H1) (idx := refsOf ds) hl).mpr w) hd.2.1)
          · exact ev1.elim
        · rename_i ex _ S2 ef
          split at ev1
          · rename_i hd
            rw [ef]
            intro L' H' c y σ' x r' _ dn'
            obtain ⟨rfl, x2, r2⟩ := call_back r1 nd eo hd.1 hd.2.1 x r'
            exact ev1 L1 H' c y σ x2 r2 ((sl.ext rp x1).ext r1 x2) (dn'.move (g := g.call L1 H1 (refsOf ds)) (g' := g) rfl rfl (fun b w => (call_wr (g := g) (L := L1) (H := H1) (idx := refsOf ds) hl).mpr w) hd.2.2)
          · exact ev1.elim
        · exact ev1.elim
    · exact ev1.elim
  · exact ev1.elim
/-- f(e, ..) -/
theorem px_call (F : FnG X.prog X.w X.K X.mg X.base k f fd ps (spM X.K X.mg n fm)) (hr : RoomG k X.A) (hg : Gl X x) (hm : X.mg x = some (.ref f)) (hk : PySem.W.keepIn X.K (.ref f) = true) (hb : Binds X.K fd ps [])
    (hK : X.K = g.K) (hmg : X.mg = g.mg) (tk : Takes X E) (ha : PA X (e :: es) (TL g E ml)) (hdb : (x == ("__debug__" : Str)) = false := by decide) (he : starEach (e :: es) X.env = (false, eval e X.env) :: starEach es X.env := by rfl)
    (hpl : (backTo pos (starEach es X.env)).any (·.1) = false := by rfl) : PE X (.Call (.Name x p) (e :: es) [] pos) (T g E (mBind ml (callF n fm))) :=
  PE.imp (pe_callG (E := fun σ => WE E σ) F hr hg hm hk hb (fun σ => passAt tk σ) ha hdb he hpl) fun σ H Q h => by simpa only [List.append_nil] using call_reads hK hmg h
end
end DL
end
section
namespace DL
open PySem PySem.Spec PyProof.Rows L2

/-! ### statements -/
def sNext : DM Fl := fun σ S => .ok (.next σ) S
def sSeq (a b : DM Fl) : DM Fl := fun σ S => (a σ S).bind fun f S' => match f with
  | .next σ' => b σ' S'
  | f => .ok f S'
def sSet (i : Nat) (m : DM D) : DM Fl := fun σ S => (m σ S).bind fun d S' => .ok (.next (σ.set i (some d))) S'
def sExpr (m : DM D) : DM Fl := fun σ S => (m σ S).bind fun _ S' => .ok (.next σ) S'
def sRet (m : DM D) : DM Fl := fun σ S => (m σ S).bind fun d S' => .ok (.ret d) S'
def sRetN : DM Fl := fun _ S => .ok (.ret .non) S
def sIf (c : DM Bool) (a b : DM Fl) : DM Fl := fun σ S => (c σ S).bind fun k S' => if k then a σ S' else b σ S'
def sBrk : DM Fl := fun σ S => .ok (.brk σ) S
def sCont : DM Fl := fun σ S => .ok (.cont σ) S
section
variable {g g' : G} {E : WX} {L L' : List Addr} {H H' : Hp} {S S' : Sto} {σd : Sl} {σ : St} {v : V} {d : D}
variable {X : Cx} {a b c : Stmt} {as bs : List Stmt} {ma mb : DM Fl} {me : DM D} {nc : DM Bool} {e : Expr} {pos : Pos}
theorem SlDen.put (h : SlDen g L H σd σ) (dn : Den g L H d v) (i : Nat) (hl : i < σ.length) : SlDen g L H (σd.set i (some d)) (σ.set i (some v)) := by
  intro j d' e
  by_cases hj : i = j
  · subst hj
    by_cases hi : i < σd.length
    · rw [List.getElem?_set_self hi] at e
      cases e
      exact ⟨v, List.getElem?_set_self hl, dn⟩
    · rw [List.getElem?_eq_none (by rw [List.length_set]; omega)] at e
      cases e
  · rw [List.getElem?_set_ne hj] at e
    obtain ⟨w, e2, q⟩ := h j d' e
    exact ⟨w, by rw [List.getElem?_set_ne hj]; exact e2, q⟩
theorem qs_nil : PSs X [] (TSt g E sNext) := PSs.imp pss_nil fun D σ H ⟨L, σd, S, rp, sl, ev⟩ => ev.ok rp σ sl
theorem qs_cons (h1 : PS X a (TSt g E ma)) (h2 : PSs X bs (TSt g E mb)) : PSs X (a :: bs) (TSt g E (sSeq ma mb)) :=
  PSs.imp (pss_cons h1 h2) fun D σ H ⟨L, σd, S, rp, sl, ev⟩ => ⟨L, σd, S, rp, sl, (Ev.bind ev).imp fun f S' L' H' x r' ev' => by
    cases f with
    | next σd' => exact fun σ' sl' => ⟨L', σd', S', r', sl', ev'⟩
    | ret d => exact ev'.ok r'
    | brk d => exact ev'.ok r'
    | cont d => exact ev'.ok r'⟩
theorem qs_one (h1 : PS X a (TSt g E ma)) : PSs X [a] (TSt g E ma) := pss_one h1
theorem qs_last (h1 : PS X a (TSt g E ma)) : PSs X [a] (TSt g E ma) := pss_one h1
/-- name = e; σ's length is the names' -/
theorem len_of {X : Cx} {t : TE} (h : PE X e t) : PE X e (fun σ H Q => σ.length = X.N.length → t σ H Q) := ⟨fun p s σ H Q I q => h.run p s σ H Q I (q I.len)⟩
theorem SlDen.put' (h : SlDen g L H σd σ) (dn : Den g L H d v) (i : Nat) : SlDen g L H (σd.set i (some d)) (σ.set i (some v)) ∨ ¬ i < σ.length := by
  by_cases hl : i < σ.length
  · exact .inl (h.put dn i hl)
  · exact .inr hl
end
section
variable {g g' : G} {E : WX} {L L' : List Addr} {H H' : Hp} {S S' : Sto} {σd : Sl} {σ : St} {v : V} {d : D}
variable {X : Cx} {a b c : Stmt} {as bs : List Stmt} {ma mb : DM Fl} {me : DM D} {nc : DM Bool} {e : Expr} {pos : Pos}
theorem PS.len {st : Stmt} {t : TS} (h : PS X st t) : PS X st (fun D σ H => σ.length = X.N.length → t D σ H) := ⟨fun p s σ H D I q => h.run p s σ H D I (q I.len)⟩
theorem PG.len {tg : Expr} {t : TG} (h : PG X tg t) : PG X tg (fun v σ H Q => σ.length = X.N.length → t v σ H Q) := ⟨fun p s σ H v u Q I r q => h.run p s σ H v u Q I r (q I.len)⟩
theorem qs_set {i : Nat} {x : Str} {pos' : Pos} (hN : X.N.Nodup) (hi : X.N[i]? = some x) (hx : Loc X.env.scope x) (he : PE X e (T g E me)) (hs : swapsWith e (some (.Name x pos')) pos.line X.env = pure false := by rfl) (hf : X.fn x = true ∨ X.env.scope.names.lookup x = some .local := by first | exact .inl rfl | exact .inr rfl | assumption) :
    PS X (.Assign [.Name x pos'] e pos) (TSt g E (sSet i me)) :=
  PS.imp (PS.len (ps_set hN hi hx he hs hf)) fun D σ H ⟨L, σd, S, rp, sl, ev⟩ hl => ⟨L, σd, S, rp, sl, (Ev.bind ev).imp fun d S' L' H' x r' ev' v dn => by
    have hl2 : i < σ.length := by rw [hl]; exact (List.getElem?_eq_some_iff.mp hi).1
    exact ev'.ok r' _ ((sl.ext rp x).put dn i hl2)⟩
theorem qs_expr (he : PE X e (T g E me)) (hs : swapsWith e none pos.line X.env = pure false := by rfl) : PS X (.Expr e pos) (TSt g E (sExpr me)) :=
  PS.imp (ps_expr he hs) fun D σ H ⟨L, σd, S, rp, sl, ev⟩ => ⟨L, σd, S, rp, sl, (Ev.bind ev).imp fun d S' L' H' x r' ev' v dn => ev'.ok r' σ (sl.ext rp x)⟩
theorem qs_doc {y j pos pos'} : PS X (.Expr (.Constant (.str y) j pos) pos') (TSt g E sNext) := PS.imp ps_doc fun D σ H ⟨L, σd, S, rp, sl, ev⟩ => ev.ok rp σ sl
theorem qs_pass : PS X (.Pass pos) (TSt g E sNext) := PS.imp ps_pass fun D σ H ⟨L, σd, S, rp, sl, ev⟩ => ev.ok rp σ sl
theorem qs_break : PS X (.Break pos) (TSt g E sBrk) := PS.imp ps_break fun D σ H ⟨L, σd, S, rp, sl, ev⟩ => ev.ok rp σ sl
theorem qs_continue : PS X (.Continue pos) (TSt g E sCont) := PS.imp ps_continue fun D σ H ⟨L, σd, S, rp, sl, ev⟩ => ev.ok rp σ sl
theorem qs_ret (he : PE X e (T g E me)) : PS X (.Return (some e) pos) (TSt g E (sRet me)) :=
  PS.imp (ps_ret he) fun D σ H ⟨L, σd, S, rp, sl, ev⟩ => ⟨L, σd, S, rp, sl, (Ev.bind ev).imp fun d S' L' H' x r' ev' v dn => ev'.ok r' v dn⟩
theorem qs_retN : PS X (.Return none pos) (TSt g E sRetN) := PS.imp ps_retN fun D σ H ⟨L, σd, S, rp, sl, ev⟩ => ev.ok rp .non (.pd .non)
theorem qs_if {c : Expr} (hc : PT X c (TB g E nc)) (ha : PSs X as (TSt g E ma)) (hb : PSs X bs (TSt g E mb)) : PS X (.If c as bs pos) (TSt g E (sIf nc ma mb)) :=
  PS.imp (ps_if hc ha hb) fun D σ H ⟨L, σd, S, rp, sl, ev⟩ => ⟨L, σd, S, rp, sl, (Ev.bind ev).imp fun k S' L' H' x r' ev' => by
    cases k with
    | true => exact ⟨L', σd, S', r', sl.ext rp x, ev'⟩
    | false => exact ⟨L', σd, S', r', sl.ext rp x, ev'⟩⟩
/-- what is not come to -/
def sNever : DM Fl := fun _ _ => .stuck
theorem qs_never : PS X a (TSt g E sNever) := PS.imp ps_never fun D σ H ⟨L, σd, S, rp, sl, ev⟩ => ev
theorem qss_never : PSs X as (TSt g E sNever) := PSs.imp pss_never fun D σ H ⟨L, σd, S, rp, sl, ev⟩ => ev
end

/-! ### targets -/
abbrev TgD := D → Sl → Option Sl
def tgName (i : Nat) : TgD := fun d σ => some (σ.set i (some d))
abbrev TgsD := List D → Sl → Option Sl
def tgNil : TgsD := fun ds σ => match ds with
  | [] => some σ
  | _ => none
def tgCons (t : TgD) (u : TgsD) : TgsD := fun ds σ => match ds with
  | d :: r => (t d σ).bind (u r)
  | [] => none
def tgTup (t : TgsD) : TgD := fun d σ => match d with
  | .pd (.tuple ds) => t (ds.map .pd) σ
  | _ => none
def GT (g : G) (t : TgD) : TG := fun v σ H Q => ∃ L σd S d σd', RepS g L S H ∧ SlDen g L H σd σ ∧ Den g L H d v ∧ t d σd = some σd' ∧ ∀ σ', SlDen g L H σd' σ' → Q σ' H
def GTs (g : G) (t : TgsD) : TGs := fun vs σ H Q => ∃ L σd S ds σd', RepS g L S H ∧ SlDen g L H σd σ ∧ Dens g L H ds vs ∧ t ds σd = some σd' ∧ ∀ σ', SlDen g L H σd' σ' → Q σ' H
section
variable {g g' : G} {E : WX} {L L' : List Addr} {H H' : Hp} {S S' : Sto} {σd : Sl} {σ : St} {v : V} {d : D}
variable {X : Cx} {e : Expr} {es : List Expr} {pos : Pos} {me : DM D} {t : TgD} {u : TgsD}
theorem gx_name {i : Nat} {x : Str} (hN : X.N.Nodup) (hi : X.N[i]? = some x) (hx : Loc X.env.scope x) (hf : X.fn x = true ∨ X.env.scope.names.lookup x = some .local := by first | exact .inl rfl | exact .inr rfl | assumption) : PG X (.Name x pos) (GT g (tgName i)) :=
  PG.imp (PG.len (pg_name hN hi hx hf)) fun v σ H Q ⟨L, σd, S, d, σd', rp, sl, dn, e, q⟩ hl => by
    have hl2 : i < σ.length := by rw [hl]; exact (List.getElem?_eq_some_iff.mp hi).1
    cases e
    exact q _ (sl.put dn i hl2)
theorem gx_nil : PGs X [] (GTs g tgNil) := PGs.imp pgs_nil fun v σ H Q ⟨L, σd, S, ds, σd', rp, sl, dn, e, q⟩ => by
  unfold tgNil at e
  split at e
  · cases e; cases dn; exact ⟨rfl, q σ sl⟩
  · cases e
theorem gx_cons (h1 : PG X e (GT g t)) (h2 : PGs X es (GTs g u)) (hs : (assignEach (e :: es) X.env).map (·.2) = assign e X.env :: (assignEach es X.env).map (·.2) := by rfl) : PGs X (e :: es) (GTs g (tgCons t u)) :=
  PGs.imp (pgs_cons h1 h2 hs) fun v σ H Q ⟨L, σd, S, ds, σd', rp, sl, dn, e, q⟩ => by
    unfold tgCons at e
    split at e
    · rename_i d r
      cases dn with
      | cons d1 d2 =>
        cases e1 : t d σd with
        | none => rw [e1] at e; cases e
        | some σ1 =>
          rw [e1] at e
          exact ⟨_, _, rfl, L, σd, S, d, σ1, rp, sl, d1, e1, fun σ' sl' => ⟨L, σ1, S, r, σd', rp, sl', d2, e, q⟩⟩
    · cases e
theorem GT.tup {k n : Nat} (hK : X.K = g.K) (hc : X.calm = true) (h : PGs X es (GTs g u)) (hn : (assignEach es X.env).length = n := by rfl) (hst : (assignEach es X.env).findIdx? (·.1) = none := by rfl)
    (hu : ∀ ds σd σd', u ds σd = some σd' → ds.length = n) : PG X (.Tuple es k pos) (GT g (tgTup u)) :=
  PG.imp (pg_tup hc h hn hst) fun v σ H Q ⟨L, σd, S, d, σd', rp, sl, dn, e, q⟩ => by
    unfold tgTup at e
    split at e
    · rename_i ds
      obtain ⟨a, vs, rfl, rd, dz⟩ := den_tup dn
      rw [← hK] at rd
      refine ⟨a, vs, rfl, rd, ?_, L, σd, S, _, σd', rp, sl, dz.dens, e, q⟩
      rw [dz.len, ← hu _ _ _ e, List.length_map]
    · cases e
/-- .. of a list too -/
def tgSeq (t : TgsD) (S : Sto) : TgD := fun d σ => match asQ S d with
  | some ds => t ds σ
  | none => none
theorem tgCons_len {n : Nat} (hu : ∀ ds σd σd', u ds σd = some σd' → ds.length = n) : ∀ ds σd σd', tgCons t u ds σd = some σd' → ds.length = n + 1 := by
  intro ds σd σd' e
  unfold tgCons at e
  split at e
  · rename_i d r
    cases e1 : t d σd with
    | none => rw [e1] at e; cases e
    | some σ1 => rw [e1] at e; rw [List.length_cons, hu _ _ _ e]
  · cases e
theorem tgNil_len : ∀ ds σd σd', tgNil ds σd = some σd' → ds.length = 0 := by
  intro ds σd σd' e
  unfold tgNil at e
  split at e
  · rfl
  · cases e
/-- target = e -/
def sAsg (t : TgD) (m : DM D) : DM Fl := fun σ S => (m σ S).bind fun d S' => match t d σ with
  | some σ' => .ok (.next σ') S'
  | none => .stuck
theorem qs_asg {tg : Expr} (he : PE X e (T g E me)) (hg : PG X tg (GT g t)) (hs : swapsWithSole [tg] e pos.line X.env = pure false := by rfl) (hw : swappedStores [tg] e X.env = pure none := by rfl)
    (h1 : (assignEach [tg] X.env).map (·.2) = [assign tg X.env] := by rfl) : PS X (.Assign [tg] e pos) (TSt g E (sAsg t me)) :=
  PS.imp (ps_asg he hg hs hw h1) fun D σ H ⟨L, σd, S, rp, sl, ev⟩ => ⟨L, σd, S, rp, sl, (Ev.bind ev).imp fun d S' L' H' x r' ev' v dn => by
    cases e1 : t d σd with
    | none => rw [e1] at ev'; exact ev'.elim
    | some σ1 =>
      rw [e1] at ev'
      exact ⟨L', σd, S', d, σ1, r', sl.ext rp x, dn, e1, fun σ' sl' => ev'.ok r' σ' sl'⟩⟩
/-- a, b = a list of two (the library's unpacking of a list) -/
def sUnl (t : TgsD) (m : DM D) : DM Fl := fun σ S => (m σ S).bind fun d S' => match asL S' d with
  | some ds => (match t ds σ with
    | some σ' => .ok (.next σ') S'
    | none => .stuck)
  | none => .stuck
/-- o[i] = e, a list -/
def setIx (S : Sto) (o i d : D) : Option Sto := match o, i with
  | .ref n, .pd (.int k) => match S[n]? with
    | some (.lst xs) => match ixN xs.length k with
      | some j => some (S.set n (.lst (xs.set j d)))
      | none => none
    | _ => none
  | _, _ => none
def sSetIx (o i m : DM D) : DM Fl := fun σ S => (m σ S).bind fun d S1 => (o σ S1).bind fun x S2 => (i σ S2).bind fun y S3 => match setIx S3 x y d with
  | some S4 => .ok (.next σ) S4
  | none => .stuck
theorem qs_setIx {o i : Expr} {mo mi : DM D} {pos' : Pos} (ho : PE X o (T g E mo)) (hi : PE X i (T g E mi)) (he : PE X e (T g E me))
    (ha : ∀ v, assign (.Subscript o i pos') X.env v = (do
      let ov ← holding [v] (eval o X.env)
      let iv ← holding [v, ov] (eval i X.env)
      standAt pos'
      holding [v, ov, iv] (setItem ov iv v)
      release [v, ov, iv] []) := by intro _; rfl)
    (hs : swapsWithSole [.Subscript o i pos'] e pos.line X.env = pure false := by rfl) (hw : swappedStores [.Subscript o i pos'] e X.env = pure none := by rfl)
    (h1 : (assignEach [.Subscript o i pos'] X.env).map (·.2) = [assign (.Subscript o i pos') X.env] := by rfl) : PS X (.Assign [.Subscript o i pos'] e pos) (TSt g E (sSetIx mo mi me)) :=
  PS.imp (ps_asg he (pg_sub ho hi set_list ha) hs hw h1) fun D σ H ⟨L, σd, S, rp, sl, ev⟩ => ⟨L, σd, S, rp, sl, (Ev.bind ev).imp fun d S1 L1 H1 x1 r1 ev1 v dn =>
    ⟨L1, σd, S1, r1, sl.ext rp x1, (Ev.bind ev1).imp fun o S2 L2 H2 x2 r2 ev2 ov no => ⟨L2, σd, S2, r2, (sl.ext rp x1).ext r1 x2, (Ev.bind ev2).imp fun i S3 L3 H3 x3 r3 ev3 iv ni => by
      have sl3 := ((sl.ext rp x1).ext r1 x2).ext r2 x3
      have no3 := no.ext r2 x3
      have dn3 := (dn.ext r1 x2).ext r2 x3
      cases es : setIx S3 o i d with
      | none => rw [es] at ev3; exact ev3.elim
      | some S4 =>
        rw [es] at ev3
        unfold setIx at es
        split at es
        · rename_i n k
          cases den_int ni
          cases no3 with
          | @ref _ a hn =>
            split at es
            · rename_i xs hx
              split at es
              · rename_i j hj
                cases es
                obtain ⟨a', ha', od⟩ := r3.ob hx
                rw [hn] at ha'
                cases ha'
                cases od with
                | @lst _ vs q dz =>
                  have hlen := Paired.len dz
                  refine ⟨a, vs, k, j, rfl, rfl, q, by rw [← hlen]; exact hj, ?_⟩
                  have xw : Ext g L3 H3 L3 (upd H3 a (.lst (vs.set j v))) := Ext.write hn
                  exact ev3 L3 _ xw (r3.write hn ⟨fun _ => by simp, fun _ _ => by simp⟩ (.lst upd_same (Paired.setR (dn3.ext r3 xw) (dz.ext r3 xw) j))) σ (sl3.ext r3 xw)
              · cases es
            · cases es
        · cases es⟩⟩⟩
/-- name op= e -/
def sAug (i : Nat) (op : D → D → Sto → Out D) (m : DM D) : DM Fl := fun σ S => match σ[i]? with
  | some (some x) => (m σ S).bind fun y S1 => (op x y S1).bind fun z S2 => .ok (.next (σ.set i (some z))) S2
  | _ => .stuck
theorem qs_aug {i : Nat} {x : Str} {op : Operator} {f : D → D → Sto → Out D} {pos' : Pos} (hN : X.N.Nodup) (hi : X.N[i]? = some x) (hx : Loc X.env.scope x) (he : PE X e (T g E me)) (ho : OpX X g (inplaceOp op) f) (hf : X.fn x = true ∨ X.env.scope.names.lookup x = some .local := by first | exact .inl rfl | exact .inr rfl | assumption) :
    PS X (.AugAssign (.Name x pos') op e pos) (TSt g E (sAug i f me)) :=
  PS.imp (PS.len (ps_aug hN hi hx he (ho E) hf)) fun D σ H ⟨L, σd, S, rp, sl, ev⟩ hl => by
    unfold sAug at ev
    split at ev
    · rename_i d e1
      obtain ⟨v, e2, dn⟩ := sl i d e1
      refine ⟨v, e2, L, σd, S, rp, sl, (Ev.bind ev).imp fun y S1 L1 H1 x1 r1 ev1 w dw => ⟨L1, S1, d, y, r1, dn.ext rp x1, dw, (Ev.bind ev1).imp fun z S2 L2 H2 x2 r2 ev2 zv nz => ?_⟩⟩
      have hl2 : i < σ.length := by rw [hl]; exact (List.getElem?_eq_some_iff.mp hi).1
      exact ev2.ok r2 _ (((sl.ext rp x1).ext r1 x2).put nz i hl2)
    · exact ev.elim
end
end DL
end
section
namespace DL
open PySem PySem.Spec PyProof.Rows L2
open Classical

/-! ### what is walked -/
inductive Gu where
  | no
  | at (n : Nat) (ob : Ob)
def Gu.ok : Gu → Sto → Prop
  | .no, _ => True
  | .at n ob, S => S[n]? = some ob
structure Wk where
  items : List D
  gu : Gu
/-- another ground in which the same data stands -/
structure Gx (g g' : G) (H0 : Hp) : Prop where
  K : g'.K = g.K
  mg : g'.mg = g.mg
  W : ∀ a, g'.W a → g.W a ∨ H0 a = none
def DWalk (g : G) (wk : Wk) (L0 : List Addr) (H0 : Hp) (J : It) : Prop := ∀ g' L S H, Gx g g' H0 → Ext g L0 H0 L H → RepS g' L S H → wk.gu.ok S →
  (∀ i d, wk.items[i]? = some d → J.go i H ∧ ∀ x H', J.yld i H x H' → Ext g L H L H' ∧ RepS g' L S H' ∧ Den g' L H' d x) ∧ J.stop wk.items.length H
def TW (g : G) (E : WX) (m : DM Wk) : TI := fun σ H R => ∃ L σd S, RepS g L S H ∧ SlDen g L H σd σ ∧ Ev g E L H (m σd S) (fun wk _ L' H' => ∀ J, DWalk g wk L' H' J → R J H')
theorem PI.imp {X : Cx} {tg e : Expr} {t t' : TI} (h : PI X tg e t) (i : ∀ σ H R, t' σ H R → t σ H R) : PI X tg e t' := ⟨fun p s σ H R I q => h.run p s σ H R I (i σ H R q)⟩
section
variable {g g' : G} {E : WX} {L L' L0 : List Addr} {H H' H0 : Hp} {S S' : Sto} {σd : Sl} {σ : St} {v : V} {d : D}
theorem kpx (r : RepS g L0 S H0) (gx : Gx g g' H0) (x : Ext g L0 H0 L H) : Kp (g.wr L0) (g'.wr L) H0 H where
  keep := fun a o e n => x.keep a o e fun h => n (.inr h)
  fixed := fun a o e n h => by
    rcases h with h | h
    · rcases gx.W a h with h | h
      · exact n (.inl h)
      · rw [e] at h; cases h
    · have := x.new a h fun h' => n (.inr h')
      rw [e] at this; cases this
  tups := (kp r x).tups
theorem Den.gx (r : RepS g L0 S H0) (gx : Gx g g' H0) (x : Ext g L0 H0 L H) (h : Den g L0 H0 d v) : Den g' L H d v := by
  cases h with
  | pd h => exact .pd (gx.K ▸ h.keep (kpx r gx x))
  | ref h =>
    obtain ⟨t, rfl⟩ := x.pre
    exact .ref (by rw [List.getElem?_append_left (List.getElem?_eq_some_iff.mp h).1]; exact h)
  | glob h => exact .glob (by rw [gx.mg]; exact h)
  | xt e hd z =>
    have k := kpx r gx x
    exact .xt (k.keep _ _ e fun w => (k.tups _ w _).2 _ e) hd (gx.K ▸ z.keep k)
theorem Dens.gx (r : RepS g L0 S H0) (gx : Gx g g' H0) (x : Ext g L0 H0 L H) {ds : List D} {vs : List V} (h : Dens g L0 H0 ds vs) : Dens g' L H ds vs := Paired.imp h fun _ _ q => q.gx r gx x
theorem Ext.any {g2 : G} (x : Ext g L H L' H') : Ext g2 L H L' H' := ⟨x.pre, x.new, x.keep, x.there⟩
def guOf (S : Sto) : D → Gu
  | .ref n => match S[n]? with
    | some ob => .at n ob
    | none => .no
  | _ => .no
/-- the walk of a list, a tuple -/
def wkSeq (d : D) : DM Wk := fun _ S => match asQ S d with
  | some xs => .ok ⟨xs, guOf S d⟩ S
  | none => .stuck
theorem seq_stays (r : RepS g L0 S H0) (dn : Den g L0 H0 d v) {xs : List D} (e : asQ S d = some xs) : ∃ a vs, v = .ref a ∧ Dens g L0 H0 xs vs ∧
    ((SqL g.K H0 a vs ∧ ∀ g' L S' H, Gx g g' H0 → Ext g L0 H0 L H → RepS g' L S' H → (guOf S d).ok S' → ∃ ws, SqL g.K H a ws ∧ Dens g' L H xs ws) ∨
     (SqT g.K H0 a vs ∧ ∀ g' L S' H, Gx g g' H0 → Ext g L0 H0 L H → RepS g' L S' H → (guOf S d).ok S' → SqT g.K H a vs)) := by
  unfold asQ at e
  split at e
  · rename_i ys
    cases e
    obtain ⟨a, vs, rfl, rd, dz⟩ := den_tup dn
    refine ⟨a, vs, rfl, dz.dens, .inr ⟨rd, fun g' L S' H gx x r' _ => SqT.keep rd fun zs hz o e' => x.keep a o e' fun hm => ?_⟩⟩
    obtain ⟨o2, e2, nt⟩ := r.there hm
    rcases hz with hz | ⟨o3, hz⟩
    · rw [hz] at e2; cases e2; exact nt.1 zs rfl
    · rw [hz] at e2; cases e2; exact nt.2 o3 zs rfl
  · unfold asL at e
    split at e
    · cases e
      cases dn with
      | pd h =>
        cases h with
        | @lst a vs _ nw rd dz =>
          refine ⟨a, vs, rfl, dz.dens, .inl ⟨.inl rd, fun g' L S' H gx x r' _ => ⟨vs, .inl (Rd.keep rd fun o e' => x.keep a o e' fun hm => nw (.inr hm)), dz.dens.gx r gx x⟩⟩⟩
    · rename_i n
      cases dn with
      | @ref _ a hn =>
        split at e
        · rename_i xs' hs
          cases e
          obtain ⟨a', ha, od⟩ := r.ob hs
          rw [hn] at ha
          cases ha
          cases od with
          | lst q ds =>
            refine ⟨a, _, rfl, ds, .inl ⟨.inl (.inl q), fun g' L S' H gx x r' gu => ?_⟩⟩
            simp only [guOf, hs, Gu.ok] at gu
            obtain ⟨a2, ha2, od2⟩ := r'.ob gu
            obtain ⟨t, rfl⟩ := x.pre
            rw [List.getElem?_append_left (List.getElem?_eq_some_iff.mp hn).1, hn] at ha2
            cases ha2
            cases od2 with
            | lst q2 ds2 => exact ⟨_, .inl (.inl q2), ds2⟩
        · cases e
    · cases e
variable {X : Cx} {tg e : Expr} {me : DM D} {pos p : Pos}
theorem Dens.getR {ds : List D} {vs : List V} (h : Dens g L H ds vs) {i : Nat} (e : ds[i]? = some d) : ∃ v, vs[i]? = some v ∧ Den g L H d v := Paired.get h e
def iSeq (m : DM D) : DM Wk := mBind m wkSeq

def iSeqT (K : PySem.W.Frag) (tl : TE) : TI := fun σ H R => tl σ H fun x H1 => ∃ a, x = .ref a ∧ ((∃ xs, SqL K H1 a xs ∧ R (Itl K a) H1) ∨ (∃ xs, SqT K H1 a xs ∧ R (Itt K a) H1))
theorem pi_seq {l : Expr} {tl : TE} (hl : PE X l tl) : PI X tg l (iSeqT X.K tl) := by
  refine ⟨fun pins s σ H R I h => ?_⟩
  refine thn (hl.run pins s σ H _ I h) fun v s1 ⟨x, H1, I1, r1, q1⟩ => ?_
  obtain ⟨a, e, q⟩ := q1
  subst e
  cases r1
  rcases q with ⟨xs, hq, q⟩ | ⟨xs, hq, q⟩
  · obtain ⟨its, rv, p, hz⟩ := I1.list hq
    refine wpAny_pyIter_list p.isList ?_
    refine ⟨s1.heap.objs.size, [s1.heap.objs.size], _, _, H1, rfl, I1.kept (t' := s1.toks) fun b o e => Heap.get?_push_of_some _ e, turn_list a _, ⟨_, Heap.get?_push_size _ rfl, rfl, rfl⟩, fun b hb => ?_, q⟩
    have e : b = s1.heap.objs.size := by simpa using hb
    subst e
    exact I1.fpOk (Nat.le_refl _) (I1.hok.fresh (Nat.le_refl _))
  · obtain ⟨its, rv, p, hz⟩ := I1.tuple hq
    refine wpAny_pyIter_tuple (show s1.heap.IsTuple a its.toArray from p) ?_
    refine ⟨s1.heap.objs.size, [s1.heap.objs.size], _, _, H1, rfl, I1.kept (t' := s1.toks) fun b o e => Heap.get?_push_of_some _ e, turn_tuple a _, ⟨_, Heap.get?_push_size _ rfl, rfl, rfl⟩, fun b hb => ?_, q⟩
    have e : b = s1.heap.objs.size := by simpa using hb
    subst e
    exact I1.fpOk (Nat.le_refl _) (I1.hok.fresh (Nat.le_refl _))
/-- for x in a list, a tuple -/
theorem ix_seq (hK : X.K = g.K) (he : PE X e (T g E me)) : PI X tg e (TW g E (iSeq me)) :=
  PI.imp (pi_seq he) fun σ H R ⟨L, σd, S, rp, sl, ev⟩ => ⟨L, σd, S, rp, sl, ev.step fun d S1 L1 H1 x1 r1 ev1 v dn => by
    unfold wkSeq at ev1
    split at ev1
    · rename_i xs ex
      have fin := ev1.ok r1
      obtain ⟨a, vs, rfl, ds, hh⟩ := seq_stays r1 dn ex
      rw [hK]
      rcases hh with ⟨hq, st⟩ | ⟨hq, st⟩
      · refine ⟨a, rfl, .inl ⟨vs, hq, fin _ fun g' L S H gx x r' gu => ?_⟩⟩
        obtain ⟨ws, hw, dw⟩ := st g' L S H gx x r' gu
        refine ⟨fun i d e => ?_, ws, hw, by rw [Paired.len dw]; exact Nat.le_refl _⟩
        obtain ⟨y, ey, dy⟩ := Paired.get dw e
        refine ⟨⟨ws, y, hw, ey⟩, fun z H' hz => ?_⟩
        obtain ⟨rfl, hz⟩ := hz
        have := hz ws hw
        rw [ey] at this
        cases this
        exact ⟨Ext.refl, r', dy⟩
      · refine ⟨a, rfl, .inr ⟨vs, hq, fin _ fun g' L S H gx x r' gu => ?_⟩⟩
        have hw := st g' L S H gx x r' gu
        refine ⟨fun i d e => ?_, vs, hw, by rw [Paired.len ds]; exact Nat.le_refl _⟩
        obtain ⟨y, ey, dy⟩ := Paired.get ds e
        refine ⟨⟨vs, y, hw, ey⟩, fun z H' hz => ?_⟩
        obtain ⟨rfl, hz⟩ := hz
        have := hz vs hw
        rw [ey] at this
        cases this
        exact ⟨Ext.refl, r', dy.gx r1 gx x⟩
    · exact ev1.elim⟩
/-- ints lo, lo + 1, .. -/
def wkRange (lo : Int) (n : Nat) : Wk := ⟨(List.range n).map fun (i : Nat) => D.int (lo + i), .no⟩
theorem range_walk {lo : Int} {n : Nat} : DWalk g (wkRange lo n) L0 H0 (Itr lo n) := fun g' L S H gx x r _ =>
  ⟨fun i d e => by
    unfold wkRange at e
    rw [List.getElem?_map] at e
    cases q : (List.range n)[i]? with
    | none => rw [q] at e; cases e
    | some j =>
      rw [q] at e
      have hj : i < n ∧ j = i := by
        obtain ⟨h1, h2⟩ := List.getElem?_eq_some_iff.mp q
        simp at h1 h2
        exact ⟨h1, h2.symm⟩
      obtain ⟨hi, rfl⟩ := hj
      cases e
      exact ⟨hi, fun z H' hz => by obtain ⟨rfl, rfl⟩ := hz; exact ⟨Ext.refl, r, .pd (.int _)⟩⟩,
  by show n ≤ (wkRange lo n).items.length; unfold wkRange; simp⟩
def rangeOf1 : List D → DM Wk := fun ds _ S => match ds with
  | [.pd (.int j)] => if -(2 ^ 62) ≤ j ∧ j < 2 ^ 62 then .ok (wkRange 0 j.toNat) S else .stuck
  | _ => .stuck
def rangeOf2 : List D → DM Wk := fun ds _ S => match ds with
  | [.pd (.int i), .pd (.int j)] => if -(2 ^ 62) ≤ i ∧ i < 2 ^ 62 ∧ -(2 ^ 62) ≤ j ∧ j < 2 ^ 62 then .ok (wkRange i (j - i).toNat) S else .stuck
  | _ => .stuck
def iRange1 (m : DM (List D)) : DM Wk := mBind m rangeOf1
def iRange2 (m : DM (List D)) : DM Wk := mBind m rangeOf2
variable {ml : DM (List D)} {a b : Expr}
theorem ix_range1 (hg : Gl X "range") (hm : X.mg "range" = none) (ha : PA X [a] (TL g E ml)) (hs : starEach [a] X.env = [(false, eval a X.env)] := by rfl) : PI X tg (.Call (.Name "range" p) [a] [] pos) (TW g E (iRange1 ml)) :=
  PI.imp (pi_range1 hg hm ha hs) fun σ H R ⟨L, σd, S, rp, sl, ev⟩ => ⟨L, σd, S, rp, sl, ev.step fun ds S1 L1 H1 x1 r1 ev1 vs dn => by
    unfold rangeOf1 at ev1
    split at ev1
    · rename_i j
      split at ev1
      · rename_i hj
        cases dn with
        | cons d1 d2 =>
          cases d2
          cases den_int d1
          exact ⟨j, rfl, hj.1, hj.2, ev1.ok r1 _ range_walk⟩
      · exact ev1.elim
    · exact ev1.elim⟩
theorem ix_range2 (hg : Gl X "range") (hm : X.mg "range" = none) (ha : PA X [a, b] (TL g E ml)) (hs : starEach [a, b] X.env = [(false, eval a X.env), (false, eval b X.env)] := by rfl) (hs2 : starEach [b] X.env = [(false, eval b X.env)] := by rfl) : PI X tg (.Call (.Name "range" p) [a, b] [] pos) (TW g E (iRange2 ml)) :=
  PI.imp (pi_range2 hg hm ha hs hs2) fun σ H R ⟨L, σd, S, rp, sl, ev⟩ => ⟨L, σd, S, rp, sl, ev.step fun ds S1 L1 H1 x1 r1 ev1 vs dn => by
    unfold rangeOf2 at ev1
    split at ev1
    · rename_i i j
      split at ev1
      · rename_i hj
        cases dn with
        | cons d1 d2 =>
          cases d2 with
          | cons d2 d3 =>
            cases d3
            cases den_int d1
            cases den_int d2
            exact ⟨i, j, rfl, hj, ev1.ok r1 _ range_walk⟩
      · exact ev1.elim
    · exact ev1.elim⟩

/-! ### for -/
def clr : List Nat → Sl → Sl
  | [], σ => σ
  | i :: r, σ => (clr r σ).set i none
theorem SlDen.clr (h : SlDen g L H σd σ) : ∀ vs : List Nat, SlDen g L H (clr vs σd) σ
  | [] => h
  | j :: r => fun i d e => by
    by_cases hj : j = i
    · subst hj
      unfold DL.clr at e
      by_cases hl : j < (DL.clr r σd).length
      · rw [List.getElem?_set_self hl] at e; cases e
      · rw [List.getElem?_eq_none (by rw [List.length_set]; omega)] at e; cases e
    · unfold DL.clr at e
      rw [List.getElem?_set_ne hj] at e
      exact SlDen.clr h r i d e
noncomputable def forGo (gu : Gu) (t : TgD) (body : DM Fl) (vs : List Nat) : List D → DM Fl
  | [] => fun σ S => if gu.ok S then .ok (.next σ) S else .stuck
  | d :: r => fun σ S => if gu.ok S then (match t d σ with
    | some σ1 => (body σ1 S).bind fun f S' => match f with
      | .next σ2 => forGo gu t body vs r (clr vs σ2) S'
      | .cont σ2 => forGo gu t body vs r (clr vs σ2) S'
      | .brk σ2 => .ok (.next (clr vs σ2)) S'
      | .ret d => .ok (.ret d) S'
    | none => .stuck) else .stuck
noncomputable def sFor (vs : List Nat) (w : DM Wk) (t : TgD) (body : DM Fl) : DM Fl := fun σ S => (w σ S).bind fun wk S' => forGo wk.gu t body vs wk.items (clr vs σ) S'
variable {mw : DM Wk} {t : TgD} {mb : DM Fl} {iter : Expr} {body : List Stmt} {vs : List Nat}
theorem gx_refl : Gx g g H0 := ⟨rfl, rfl, fun _ h => .inl h⟩
theorem qs_for (hp : PassesOwn (model X.prog X.w) X.A X.env X.xe) (hc : X.calm = true) (hi : PI X tg iter (TW g E mw)) (hg : PG X tg (GT g t)) (hb : PSs X body (TSt g E mb))
    (hs : ∀ x, foldedSetIterable iter X.env x = pure x := by intro _; rfl) : PS X (.For tg iter body [] pos) (TSt g E (sFor vs mw t mb)) :=
  PS.imp (ps_for hp hc hi hg hb hs) fun D σ H ⟨L, σd, S, rp, sl, ev⟩ => ⟨L, σd, S, rp, sl, (Ev.bind ev).imp fun wk S1 L1 H1 x1 r1 ev1 J hJ => by
    refine ⟨fun i m σ H => ∃ L σd S, m = wk.items.length - i ∧ i ≤ wk.items.length ∧ Ext g L1 H1 L H ∧ RepS g L S H ∧ SlDen g L H σd σ ∧ Ev g E L H (forGo wk.gu t mb vs (wk.items.drop i) σd S) (PF g D),
      ⟨wk.items.length, L1, clr vs σd, S1, by simp, Nat.zero_le _, Ext.refl, r1, (sl.ext rp x1).clr vs, by simpa using ev1⟩, ?_⟩
    rintro i m σ2 H2 ⟨L2, σd2, S2, rfl, hi, x2, r2, sl2, ev2⟩
    cases hd : wk.items.drop i with
    | nil =>
      rw [hd] at ev2
      unfold forGo at ev2
      split at ev2
      · rename_i gu
        have hi2 : i = wk.items.length := by
          have := congrArg List.length hd
          simp at this
          omega
        obtain ⟨_, st⟩ := hJ g L2 S2 H2 gx_refl x2 r2 gu
        subst hi2
        exact .inl ⟨st, ev2.ok r2 σ2 sl2⟩
      · exact ev2.elim
    | cons d r =>
      rw [hd] at ev2
      unfold forGo at ev2
      split at ev2
      · rename_i gu
        have hi2 : i < wk.items.length := by
          have := congrArg List.length hd
          simp at this
          omega
        have ed : wk.items[i]? = some d := by
          have := congrArg (fun l => l[0]?) hd
          simpa [List.getElem?_drop] using this
        have hr : wk.items.drop (i + 1) = r := by
          have := congrArg (List.drop 1) hd
          simpa [List.drop_drop, Nat.add_comm] using this
        obtain ⟨go, _⟩ := hJ g L2 S2 H2 gx_refl x2 r2 gu
        obtain ⟨go, yl⟩ := go i d ed
        cases e1 : t d σd2 with
        | none => rw [e1] at ev2; exact ev2.elim
        | some σ3 =>
          rw [e1] at ev2
          refine .inr ⟨go, fun σ H => ∃ L σd S, i + 1 ≤ wk.items.length ∧ Ext g L1 H1 L H ∧ RepS g L S H ∧ SlDen g L H σd σ ∧ Ev g E L H (forGo wk.gu t mb vs (wk.items.drop (i + 1)) σd S) (PF g D), fun σ' H' ⟨L', σd', S', h1, h2, h3, h4, h5⟩ => ⟨wk.items.length - (i + 1), by omega, L', σd', S', rfl, h1, h2, h3, h4, h5⟩, fun z H3 hz => ?_⟩
          obtain ⟨x3, r3, dn⟩ := yl z H3 hz
          refine ⟨L2, σd2, S2, d, σ3, r3, sl2.ext r2 x3, dn, e1, fun σ' sl' => ⟨L2, σ3, S2, r3, sl', (Ev.of x3 (Ev.bind ev2)).imp fun f S4 L4 H4 x4 r4 ev4 => ?_⟩⟩
          rw [hr]
          cases f with
          | next σ5 => exact fun σ6 sl6 => ⟨L4, clr vs σ5, S4, hi2, (x2.trans x3).trans x4, r4, sl6.clr vs, ev4⟩
          | cont σ5 => exact fun σ6 sl6 => ⟨L4, clr vs σ5, S4, hi2, (x2.trans x3).trans x4, r4, sl6.clr vs, ev4⟩
          | brk σ5 => exact fun σ6 sl6 => ev4.ok r4 σ6 (sl6.clr vs)
          | ret d => exact ev4.ok r4
      · exact ev2.elim⟩

/-! ### while -/
def whileN (c : DM Bool) (body : DM Fl) (vs : List Nat) : Nat → DM Fl
  | 0 => fun _ _ => .stuck
  | n + 1 => fun σ S => (c σ S).bind fun k S1 => if k then (body σ S1).bind fun f S2 => match f with
      | .next σ2 => whileN c body vs n (clr vs σ2) S2
      | .cont σ2 => whileN c body vs n (clr vs σ2) S2
      | .brk σ2 => .ok (.next (clr vs σ2)) S2
      | .ret d => .ok (.ret d) S2
    else .ok (.next σ) S1
noncomputable def sWhile (vs : List Nat) (c : DM Bool) (body : DM Fl) : DM Fl := fun σ S => if h : ∃ n, whileN c body vs n (clr vs σ) S ≠ .stuck then whileN c body vs (Classical.choose h) (clr vs σ) S else .stuck
variable {nc : DM Bool} {c : Expr}
theorem qs_while (hp : PassesOwn (model X.prog X.w) X.A X.env X.xe) (hc : PT X c (TB g E nc)) (hb : PSs X body (TSt g E mb)) : PS X (.While c body [] pos) (TSt g E (sWhile vs nc mb)) :=
  PS.imp (ps_while hp hc hb) fun D σ H ⟨L, σd, S, rp, sl, ev⟩ => by
    unfold sWhile at ev
    split at ev
    · rename_i h
      refine ⟨fun m σ H => ∃ L σd S, RepS g L S H ∧ SlDen g L H σd σ ∧ Ev g E L H (whileN nc mb vs m σd S) (PF g D), ⟨_, L, _, S, rp, sl.clr vs, ev⟩, ?_⟩
      rintro m σ2 H2 ⟨L2, σd2, S2, r2, sl2, ev2⟩
      cases m with
      | zero => exact ev2.elim
      | succ m =>
        unfold whileN at ev2
        refine ⟨L2, σd2, S2, r2, sl2, (Ev.bind ev2).imp fun k S3 L3 H3 x3 r3 ev3 => ?_⟩
        cases k with
        | false => exact Ev.ok (P := PF g D) (E := E) (a := Fl.next σd2) ev3 r3 σ2 (sl2.ext r2 x3)
        | true =>
          show ∃ N : St → Hp → Prop, _
          refine ⟨fun σ H => ∃ L σd S, RepS g L S H ∧ SlDen g L H σd σ ∧ Ev g E L H (whileN nc mb vs m σd S) (PF g D), fun σ' H' h => ⟨m, Nat.lt_succ_self m, h⟩, L3, σd2, S3, r3, sl2.ext r2 x3, ?_⟩
          have ev3' : Ev g E L3 H3 ((mb σd2 S3).bind fun f S2 => match f with
            | .next σ2 => whileN nc mb vs m (clr vs σ2) S2
            | .cont σ2 => whileN nc mb vs m (clr vs σ2) S2
            | .brk σ2 => .ok (.next (clr vs σ2)) S2
            | .ret d => .ok (.ret d) S2) (PF g D) := ev3
          refine (Ev.bind ev3').imp fun f S4 L4 H4 x4 r4 ev4 => ?_
          cases f with
          | next σ5 => exact fun σ6 sl6 => ⟨L4, clr vs σ5, S4, r4, sl6.clr vs, ev4⟩
          | cont σ5 => exact fun σ6 sl6 => ⟨L4, clr vs σ5, S4, r4, sl6.clr vs, ev4⟩
          | brk σ5 => exact fun σ6 sl6 => ev4.ok r4 σ6 (sl6.clr vs)
          | ret d => exact ev4.ok r4
    · exact ev.elim
end
end DL
end
section
namespace DL
open PySem PySem.Spec PyProof.Rows L2
open Classical

/-! ### comprehensions -/
def TgR (K : PySem.W.Frag) (N : List Str) (vs : List Nat) (gt : TG) (t : TgD) : Prop := ∀ (g : G) (L : List Addr) (S : Sto) (H : Hp) (v : V) (d : D) (σd σd' : Sl) (σ : L2.St) (Q : L2.St → Hp → Prop), g.K = K → RepS g L S H → SlDen g L H σd σ → σ.length = N.length → Den g L H d v → t d σd = some σd' →
  (∀ σ' : L2.St, SlDen g L H σd' σ' → σ'.length = σ.length → (∀ i, i ∉ vs → σ'[i]? = σ[i]?) → Q σ' H) → gt v σ H Q
def TgsR (K : PySem.W.Frag) (N : List Str) (vs : List Nat) (gt : TGs) (t : TgsD) : Prop := ∀ (g : G) (L : List Addr) (S : Sto) (H : Hp) (v : List V) (d : List D) (σd σd' : Sl) (σ : L2.St) (Q : L2.St → Hp → Prop), g.K = K → RepS g L S H → SlDen g L H σd σ → σ.length = N.length → Dens g L H d v → t d σd = some σd' →
  (∀ σ' : L2.St, SlDen g L H σd' σ' → σ'.length = σ.length → (∀ i, i ∉ vs → σ'[i]? = σ[i]?) → Q σ' H) → gt v σ H Q
section
variable {K : PySem.W.Frag} {N : List Str} {vs : List Nat} {gt : TG} {gts : TGs} {t : TgD} {u : TgsD}
theorem tr_name {i : Nat} {x : Str} (hi : N[i]? = some x := by rfl) (hm : i ∈ vs := by decide) : TgR K N vs (gName i) (tgName i) := by
  intro g L S H v d σd σd' σ Q hK r sl hl dn e q
  cases e
  have hl2 : i < σ.length := by rw [hl]; exact (List.getElem?_eq_some_iff.mp hi).1
  refine q _ (sl.put dn i hl2) (by rw [List.length_set]) fun j hj => ?_
  rw [List.getElem?_set_ne (show i ≠ j from fun z => hj (by rw [← z]; exact hm))]
theorem tr_nil : TgsR K N vs gNil tgNil := by
  intro g L S H v d σd σd' σ Q hK r sl hl dn e q
  unfold tgNil at e
  split at e
  · cases e; cases dn; exact ⟨rfl, q σ sl rfl fun _ _ => rfl⟩
  · cases e
theorem tr_cons (h1 : TgR K N vs gt t) (h2 : TgsR K N vs gts u) : TgsR K N vs (gCons gt gts) (tgCons t u) := by
  intro g L S H v d σd σd' σ Q hK r sl hl dn e q
  unfold tgCons at e
  split at e
  · rename_i d r'
    cases dn with
    | cons d1 d2 =>
      cases e1 : t d σd with
      | none => rw [e1] at e; cases e
      | some σ1 =>
        rw [e1] at e
        exact ⟨_, _, rfl, h1 g L S H _ _ _ _ _ _ hK r sl hl d1 e1 fun σ' sl' hl' out => h2 g L S H _ _ _ _ _ _ hK r sl' (hl'.trans hl) d2 e fun σ'' sl'' hl'' out'' => q σ'' sl'' (hl''.trans hl') fun i hi => (out'' i hi).trans (out i hi)⟩
  · cases e
theorem tr_tup {n : Nat} (h : TgsR K N vs gts u) (hu : ∀ ds σd σd', u ds σd = some σd' → ds.length = n) : TgR K N vs (gTup K n gts) (tgTup u) := by
  intro g L S H v d σd σd' σ Q hK r sl hl dn e q
  unfold tgTup at e
  split at e
  · rename_i ds
    obtain ⟨a, vs, rfl, rd, dz⟩ := den_tup dn
    rw [hK] at rd
    refine ⟨a, vs, rfl, rd, ?_, h g L S H _ _ _ _ _ _ hK r sl hl dz.dens e q⟩
    rw [dz.len, ← hu _ _ _ e, List.length_map]
  · cases e
theorem wipe_in {σ : L2.St} : ∀ {vs : List Nat} {i : Nat}, i ∈ vs → i < σ.length → (wipe σ vs)[i]? = some none
  | [], _, h, _ => by cases h
  | v :: vs, i, h, hl => by
    unfold wipe
    by_cases e : v = i
    · subst e
      exact List.getElem?_set_self (by rw [wipe_length]; exact hl)
    · rw [List.getElem?_set_ne e]
      rcases List.mem_cons.mp h with h | h
      · exact absurd h.symm e
      · exact wipe_in h hl
theorem wipe_eq {σ σ' : L2.St} {vs : List Nat} (hl : σ'.length = σ.length) (h : ∀ i, i ∉ vs → σ'[i]? = σ[i]?) : wipe σ' vs = wipe σ vs := by
  refine List.ext_getElem? fun i => ?_
  by_cases hi : i ∈ vs
  · by_cases hl2 : i < σ.length
    · rw [wipe_in hi hl2, wipe_in hi (by rw [hl]; exact hl2)]
    · rw [List.getElem?_eq_none (by rw [wipe_length]; omega), List.getElem?_eq_none (by rw [wipe_length]; omega)]
  · rw [wipe_out hi, wipe_out hi, h i hi]
end
def Out.bindN {α β : Type} : Out α → (α → Sto → Out β) → Out β
  | .ok a S, f => f a S
  | _, _ => .stuck
@[simp] theorem Out.bindN_ok {α β : Type} (a : α) (S : Sto) (f : α → Sto → Out β) : (Out.ok a S).bindN f = f a S := rfl
noncomputable def lcGo (gu : Gu) (t : TgD) (tt : DM Bool) (te : DM D) : List D → List D → Sl → Sto → Out (List D)
  | [], acc, _, S => if gu.ok S then .ok acc S else .stuck
  | d :: r, acc, σ, S => if gu.ok S then (match t d σ with
    | some σ1 => (tt σ1 S).bindN fun k S1 => if k = true then (te σ1 S1).bindN fun y S2 => if acc.length < sizeLine then lcGo gu t tt te r (acc ++ [y]) σ S2 else .stuck else lcGo gu t tt te r acc σ S1
    | none => .stuck) else .stuck
/-- [e for t in w if tt]: the new list's items -/
noncomputable def lcAll (vs : List Nat) (w : DM Wk) (t : TgD) (tt : DM Bool) (te : DM D) : DM (List D) := fun σ S => (w σ S).bind fun wk S' => lcGo wk.gu t tt te wk.items [] (clr vs σ) S'
def mkF : List D → DM D := fun ys _ S => match pdL ys with
  | some zs => .ok (.lst zs) S
  | none => .stuck
def mkM : List D → DM D := fun ys _ S => .ok (.ref S.length) (S ++ [.lst ys])
noncomputable def eLc (vs : List Nat) (w : DM Wk) (t : TgD) (tt : DM Bool) (te : DM D) : DM D := mBind (lcAll vs w t tt te) mkF
noncomputable def eLcM (vs : List Nat) (w : DM Wk) (t : TgD) (tt : DM Bool) (te : DM D) : DM D := mBind (lcAll vs w t tt te) mkM
section
variable {g g' : G} {E : WX} {L L' L0 : List Addr} {H H' H0 : Hp} {S S' : Sto} {σd : Sl} {σ : L2.St} {v : V} {d : D}
/-- the ground of a comprehension's block: the new list, too, is not to be touched -/
def G.blk (g : G) (A : Addr) : G := { g with W := fun a => g.W a ∨ a = A }
theorem blk_gx {A : Addr} (h : H0 A = none) : Gx g (g.blk A) H0 := ⟨rfl, rfl, fun a w => w.imp id fun e => by rw [e]; exact h⟩
theorem blk_rep {A : Addr} {o : HO} (nt : NT o) (r : RepS g L S H) (h : H A = some o) (hn : A ∉ L) (ob : Paired (fun ob a => ObDen (g.blk A) L H a ob) S L) : RepS (g.blk A) L S H where
  nd := r.nd
  pre := r.pre
  obs := ob
  fresh := r.fresh
  own := fun a h na w => w.elim (r.own a h na) fun e => hn (e ▸ h)
  keep := r.keep
  amb := fun a w => w.elim (r.amb a) fun e => ⟨o, e.symm ▸ h, nt⟩
  asW := fun a h => .inl (r.asW a h)
theorem Den.back {A : Addr} (h : Den (g.blk A) L H d v) : Den g L H d v := by
  cases h with
  | pd q => exact .pd (q.anti fun b w => w.imp .inl id)
  | ref q => exact .ref q
  | glob q => exact .glob q
  | xt e hd z => exact .xt e hd (z.anti fun b w => w.imp .inl id)
theorem blk_back {A : Addr} (r : RepS (g.blk A) L S H) (hw : ∀ a ∈ g.as, g.W a) : RepS g L S H where
  nd := r.nd
  pre := r.pre
  obs := Paired.imp r.obs fun ob a d => by
    cases d with
    | lst e q => exact .lst e (Paired.imp q fun _ _ q => Den.back q)
    | dct e q => exact .dct e (Paired.imp q fun _ _ q => ⟨q.1, Den.back q.2⟩)
    | dtt e q => exact .dtt e (Paired.imp q fun _ _ q => ⟨q.1, Den.back q.2⟩)
    | ins c e q => exact .ins c e (Paired.imp q fun _ _ q => ⟨q.1, Den.back q.2⟩)
  fresh := r.fresh
  own := fun a h na w => r.own a h na (.inl w)
  keep := r.keep
  amb := fun a w => r.amb a (.inl w)
  asW := hw
theorem Ext.upd1 {A : Addr} {o : HO} (hn : A ∉ L) (h : H A = some o) {o' : HO} : Ext (g) L0 H0 L H → H0 A = none → Ext g L0 H0 L (upd H A o') := fun x h0 =>
  ⟨x.pre, x.new, fun a u e na => by rw [upd_ne (ne_of_none e h0)]; exact x.keep a u e na, fun a u e => by rw [upd_ne (ne_of_none e h0)]; exact x.there a u e⟩
/-- the new list's content is written: nothing else is touched -/
theorem RepS.updO {A : Addr} {o' : HO} (nt : NT o') (r : RepS (g.blk A) L S H) (hn : A ∉ L) (h0 : g.H0 A = none) : RepS (g.blk A) L S (upd H A o') := by
  have kpx : Kp ((g.blk A).wr L) ((g.blk A).wr L) H (upd H A o') := ⟨fun a o e n => by rw [upd_ne (show a ≠ A from fun z => n (.inl (.inr z)))]; exact e, fun a o e n => n, (kp r Ext.refl).tups⟩
  have dk : ∀ {d : D} {v : V}, Den (g.blk A) L H d v → Den (g.blk A) L (upd H A o') d v := fun {d v} h => by
    cases h with
    | pd q => exact .pd (q.keep kpx)
    | ref q => exact .ref q
    | glob q => exact .glob q
    | xt e hd z => exact .xt (kpx.keep _ _ e fun w => (kpx.tups _ w _).2 _ e) hd (z.keep kpx)
  refine ⟨r.nd, r.pre, Paired.memL r.obs fun ob a _ ha d => ?_, r.fresh, r.own, fun a o e na => ?_, fun a w => ?_, r.asW⟩
  · have ne : a ≠ A := fun z => hn (z ▸ ha)
    cases d with
    | lst e q => exact .lst (by rw [upd_ne ne]; exact e) (Paired.imp q fun _ _ q => dk q)
    | dct e q => exact .dct (by rw [upd_ne ne]; exact e) (Paired.imp q fun _ _ q => ⟨q.1, dk q.2⟩)
    | dtt e q => exact .dtt (by rw [upd_ne ne]; exact e) (Paired.imp q fun _ _ q => ⟨q.1, dk q.2⟩)
    | ins c e q => exact .ins c (by rw [upd_ne ne]; exact e) (Paired.imp q fun _ _ q => ⟨q.1, dk q.2⟩)
  · have e' : g.H0 a = some o := e
    rw [upd_ne (ne_of_none e' h0)]
    exact r.keep a o e na
  · by_cases z : a = A
    · subst z; exact ⟨_, upd_same, nt⟩
    · obtain ⟨o, e, nt⟩ := r.amb a w
      exact ⟨o, by rw [upd_ne z]; exact e, nt⟩
theorem Den.updO {A : Addr} {o' : HO} (r : RepS (g.blk A) L S H) (h : Den (g.blk A) L H d v) : Den (g.blk A) L (upd H A o') d v := by
  have kpx : Kp ((g.blk A).wr L) ((g.blk A).wr L) H (upd H A o') := ⟨fun a o e n => by rw [upd_ne (show a ≠ A from fun z => n (.inl (.inr z)))]; exact e, fun a o e n => n, (kp r Ext.refl).tups⟩
  cases h with
  | pd q => exact .pd (q.keep kpx)
  | ref q => exact .ref q
  | glob q => exact .glob q
  | xt e hd z => exact .xt (kpx.keep _ _ e fun w => (kpx.tups _ w _).2 _ e) hd (z.keep kpx)
theorem nt_lst (vs : List V) : NT (.lst vs) := ⟨fun _ => by simp, fun _ _ => by simp⟩
theorem nt_dK (vs : List (Key × V)) : NT (.dK vs) := ⟨fun _ => by simp, fun _ _ => by simp⟩
theorem RepS.updB {A : Addr} {vs vs' : List V} (r : RepS (g.blk A) L S H) (h : H A = some (.lst vs)) (hn : A ∉ L) (h0 : g.H0 A = none) : RepS (g.blk A) L S (upd H A (.lst vs')) := r.updO (nt_lst _) hn h0
theorem Den.updB {A : Addr} {vs' : List V} (r : RepS (g.blk A) L S H) (h : Den (g.blk A) L H d v) : Den (g.blk A) L (upd H A (.lst vs')) d v := Den.updO r h
/-- a state carried into a block -/
theorem blk_inO {A : Addr} {o' : HO} (nt : NT o') (r : RepS g L S H) (n : H A = none) : RepS (g.blk A) L S (upd H A o') := by
  have r1 := r.new1 (o := o') n
  have hA : A ∉ L := fun h => r.free n (.inr h)
  refine blk_rep nt r1 upd_same hA ?_
  refine Paired.imp r.obs fun ob a d => ?_
  have ne : ∀ o, H a = some o → upd H A o' a = some o := fun o e => by rw [upd_ne (ne_of_none e n)]; exact e
  have dk : ∀ {d : D} {v : V}, Den g L H d v → Den (g.blk A) L (upd H A o') d v := fun {d v} h => h.gx r (blk_gx n) (Ext.new1 n)
  cases d with
  | lst e q => exact .lst (ne _ e) (Paired.imp q fun _ _ q => dk q)
  | dct e q => exact .dct (ne _ e) (Paired.imp q fun _ _ q => ⟨q.1, dk q.2⟩)
  | dtt e q => exact .dtt (ne _ e) (Paired.imp q fun _ _ q => ⟨q.1, dk q.2⟩)
  | ins c e q => exact .ins c (ne _ e) (Paired.imp q fun _ _ q => ⟨q.1, dk q.2⟩)
theorem blk_in {A : Addr} (r : RepS g L S H) (n : H A = none) : RepS (g.blk A) L S (upd H A (.lst [])) := blk_inO (nt_lst _) r n
/-- .. and back, the list one of the store's -/
theorem blk_adoptO {A : Addr} {ob : Ob} (r : RepS (g.blk A) L S H) (hw : ∀ a ∈ g.as, g.W a) (hob : ObDen (g.blk A) L H A ob) (hn : A ∉ L) (hW : ¬ g.W A) (h0 : g.H0 A = none) : RepS g (L ++ [A]) (S ++ [ob]) H := by
  have mv : ∀ {d : D} {v : V}, Den (g.blk A) L H d v → Den g (L ++ [A]) H d v := fun {d v} h => by
    cases h with
    | pd q => exact .pd (q.anti fun b w => by
        rcases w with w | w
        · exact .inl (.inl w)
        · rcases List.mem_append.mp w with w | w
          · exact .inr w
          · exact .inl (.inr (by simpa using w)))
    | ref q => exact .ref (by rw [List.getElem?_append_left (List.getElem?_eq_some_iff.mp q).1]; exact q)
    | glob q => exact .glob q
    | xt e hd z => exact .xt e hd (z.anti fun b w => by
        rcases w with w | w
        · exact .inl (.inl w)
        · rcases List.mem_append.mp w with w | w
          · exact .inr w
          · exact .inl (.inr (by simpa using w)))
  have mvo : ∀ {a : Addr} {ob : Ob}, ObDen (g.blk A) L H a ob → ObDen g (L ++ [A]) H a ob := fun {a ob} d => by
    cases d with
    | lst e q => exact .lst e (Paired.imp q fun _ _ q => mv q)
    | dct e q => exact .dct e (Paired.imp q fun _ _ q => ⟨q.1, mv q.2⟩)
    | dtt e q => exact .dtt e (Paired.imp q fun _ _ q => ⟨q.1, mv q.2⟩)
    | ins c e q => exact .ins c e (Paired.imp q fun _ _ q => ⟨q.1, mv q.2⟩)
  refine ⟨?_, r.pre.trans (List.prefix_append _ _), Paired.app (Paired.imp r.obs fun ob a d => ?_) (.cons (mvo hob) .nil), fun a ha na => ?_, fun a ha na => ?_, r.keep, fun a w => r.amb a (.inl w), hw⟩
  · rw [List.nodup_append]
    refine ⟨r.nd, by simp, fun a ha b hb e => ?_⟩
    have e2 : b = A := by simpa using hb
    subst e e2
    exact hn ha
  · exact mvo d
  · rcases List.mem_append.mp ha with ha | ha
    · exact r.fresh a ha na
    · have e : a = A := by simpa using ha
      rw [e]; exact h0
  · rcases List.mem_append.mp ha with ha | ha
    · exact fun w => r.own a ha na (.inl w)
    · have e : a = A := by simpa using ha
      rw [e]; exact hW
theorem blk_adopt {A : Addr} {ds : List D} {vs : List V} (r : RepS (g.blk A) L S H) (hw : ∀ a ∈ g.as, g.W a) (h : H A = some (.lst vs)) (hn : A ∉ L) (hW : ¬ g.W A) (h0 : g.H0 A = none) (dn : Dens (g.blk A) L H ds vs) : RepS g (L ++ [A]) (S ++ [.lst ds]) H :=
  blk_adoptO r hw (.lst h dn) hn hW h0
end
end DL
end
section
namespace DL
open PySem PySem.Spec PyProof.Rows L2
open Classical
abbrev EN : WX := fun _ _ _ _ => False
section
variable {g g' : G} {E : WX} {L L' L0 : List Addr} {H H' H0 : Hp} {S S' : Sto} {σd : Sl} {σ : L2.St} {v : V} {d : D}
variable {X : Cx} {tg iter elt : Expr} {ifs : List Expr} {scope : Scope} {own : List (Str × Nat)} {pos : Pos} {mw : DM Wk} {gt : TG} {t : TgD} {mt : DM Bool} {me : DM D} {tt : TT} {te : TE}
theorem bindN_ok {α β : Type} {m : Out α} {f : α → Sto → Out β} {b : β} {S : Sto} (h : m.bindN f = .ok b S) : ∃ a S1, m = .ok a S1 ∧ f a S1 = .ok b S := by
  cases m with
  | ok a S1 => exact ⟨a, S1, rfl, h⟩
  | exc e σ S1 => cases h
  | stuck => cases h
theorem lcGo_noexc {gu : Gu} {e : Exn} {σ2 : Sl} : ∀ (l acc : List D) (σ : Sl) (S S' : Sto), lcGo gu t mt me l acc σ S ≠ .exc e σ2 S'
  | [], acc, σ, S, S' => by
    unfold lcGo
    split <;> (intro z; cases z)
  | d :: r, acc, σ, S, S' => by
    unfold lcGo
    split
    · split
      · intro z
        rename_i σ1 e1
        cases q : mt σ1 S with
        | ok k S1 =>
          rw [q] at z
          simp only [Out.bindN_ok] at z
          split at z
          · cases q2 : me σ1 S1 with
            | ok y S2 =>
              rw [q2] at z
              simp only [Out.bindN_ok] at z
              split at z
              · exact lcGo_noexc r _ _ _ _ z
              · cases z
            | exc _ _ _ => rw [q2] at z; cases z
            | stuck => rw [q2] at z; cases z
          · exact lcGo_noexc r _ _ _ _ z
        | exc _ _ _ => rw [q] at z; cases z
        | stuck => rw [q] at z; cases z
      · intro z; cases z
    · intro z; cases z
theorem clr_some : ∀ {vs : List Nat} {i : Nat}, (clr vs σd)[i]? = some (some d) → σd[i]? = some (some d) ∧ i ∉ vs
  | [], i, h => ⟨h, by simp⟩
  | j :: vs, i, h => by
    unfold clr at h
    by_cases e : j = i
    · subst e
      by_cases hl : j < (clr vs σd).length
      · rw [List.getElem?_set_self hl] at h; cases h
      · rw [List.getElem?_eq_none (by rw [List.length_set]; omega)] at h; cases h
    · rw [List.getElem?_set_ne e] at h
      obtain ⟨h1, h2⟩ := clr_some h
      exact ⟨h1, by simp only [List.mem_cons, not_or]; exact ⟨fun z => e z.symm, h2⟩⟩
theorem r1h0 {g : G} {L1 : List Addr} {S1 : Sto} {H1 : Hp} {A : Addr} (r1 : RepS g L1 S1 H1) (hA : H1 A = none) : g.H0 A = none := by
  cases e : g.H0 A with
  | none => rfl
  | some o => exact (r1.h0 hA o e).elim
theorem lc_reads {N : List Str} (hg : TgR g.K N (own.map (·.2)) gt t) (hw : ∀ a ∈ g.as, g.W a → True)
    (htt : ∀ (g' : G), g'.K = g.K → g'.mg = g.mg → ∀ σ H Q, TB g' EN mt σ H Q → tt σ H Q) (hte : ∀ (g' : G), g'.K = g.K → g'.mg = g.mg → ∀ σ H Q, T g' EN me σ H Q → te σ H Q)
    {wi : TI} (hwi : ∀ σ H R, TW g E mw σ H R → wi σ H R) {Q : VK}
    {mk : List D → DM D} (hmk : ∀ A L1 S1 H1 L S H ds vs, RepS g L1 S1 H1 → H1 A = none → Ext g L1 H1 L H → RepS (g.blk A) L S H → H A = some (.lst vs) → Dens (g.blk A) L H ds vs → A ∉ L →
      ∀ σd', Ev g E L1 H1 (mk ds σd' S) (PV g Q) → Q (.ref A) H)
    (h : T g E (mBind (lcAll (own.map (·.2)) mw t mt me) mk) σ H Q) (hNl : σ.length = N.length) : tLc wi gt tt te (own.map (·.2)) σ H Q := by
  obtain ⟨L, σd, S, rp, sl, ev⟩ := h
  generalize hvs : own.map (·.2) = vs at *
  refine hwi σ H _ ⟨L, σd, S, rp, sl, ?_⟩
  have ev' : Ev g E L H ((mw σd S).bind fun wk S' => (lcGo wk.gu t mt me wk.items [] (clr vs σd) S').bind fun ds S2 => mk ds σd S2) (PV g Q) := by
    have e : ((mw σd S).bind fun wk S' => (lcGo wk.gu t mt me wk.items [] (clr vs σd) S').bind fun ds S2 => mk ds σd S2) = mBind (lcAll vs mw t mt me) mk σd S := by
      unfold mBind lcAll
      cases mw σd S <;> rfl
    rw [e]; exact ev
  refine (Ev.bind ev').imp fun wk S1 L1 H1 x1 r1 ev1 J hJ A hA => ?_
  cases elc : lcGo wk.gu t mt me wk.items [] (clr vs σd) S1 with
  | exc e σ2 S2 => exact absurd elc (lcGo_noexc _ _ _ _ _)
  | stuck => rw [elc] at ev1; exact ev1.elim
  | ok dsF SF =>
    rw [elc] at ev1
    have evF : Ev g E L1 H1 (mk dsF σd SF) (PV g Q) := ev1
    have hAL1 : A ∉ L1 := fun h => r1.free hA (.inr h)
    have sl1 := sl.ext rp x1
    refine ⟨fun i m H => ∃ L S ds ws, m = wk.items.length - i ∧ i ≤ wk.items.length ∧ Ext g L1 H1 L H ∧ A ∉ L ∧ RepS (g.blk A) L S H ∧ H A = some (.lst ws) ∧ Dens (g.blk A) L H ds ws ∧ lcGo wk.gu t mt me (wk.items.drop i) ds (clr vs σd) S = .ok dsF SF,
      ⟨_, L1, S1, [], [], rfl, Nat.zero_le _, Ext.new1 hA, hAL1, blk_in r1 hA, upd_same, .nil, by simpa using elc⟩, ?_⟩
    rintro i m H2 ⟨L2, S2, ds, ws, rfl, hi, x2, hAL, r2, eA, dn, el⟩
    have gx := blk_gx (g := g) hA
    cases hd : wk.items.drop i with
    | nil =>
      rw [hd] at el
      unfold lcGo at el
      split at el
      · rename_i gu
        cases el
        have hi2 : i = wk.items.length := by
          have := congrArg List.length hd
          simp at this
          omega
        subst hi2
        exact .inl ⟨(hJ _ L2 _ H2 gx x2 r2 gu).2, hmk A L1 S1 H1 L2 _ H2 _ ws r1 hA x2 r2 eA dn hAL σd evF⟩
      · cases el
    | cons d r =>
      rw [hd] at el
      unfold lcGo at el
      split at el
      · rename_i gu
        have hi2 : i < wk.items.length := by
          have := congrArg List.length hd
          simp at this
          omega
        have ed : wk.items[i]? = some d := by
          have := congrArg (fun l => l[0]?) hd
          simpa [List.getElem?_drop] using this
        have hr : wk.items.drop (i + 1) = r := by
          have := congrArg (List.drop 1) hd
          simpa [List.drop_drop, Nat.add_comm] using this
        obtain ⟨go, yl⟩ := (hJ _ L2 _ H2 gx x2 r2 gu).1 i d ed
        split at el
        · rename_i σ1 e1
          obtain ⟨k, S3, em, el⟩ := bindN_ok el
          refine .inr ⟨go, fun H => ∃ L S ds ws, Ext g L1 H1 L H ∧ A ∉ L ∧ RepS (g.blk A) L S H ∧ H A = some (.lst ws) ∧ Dens (g.blk A) L H ds ws ∧ lcGo wk.gu t mt me (wk.items.drop (i + 1)) ds (clr vs σd) S = .ok dsF SF,
            fun H' ⟨L, S, ds, ws, h1, h2, h3, h4, h5, h6⟩ => ⟨wk.items.length - (i + 1), by omega, L, S, ds, ws, rfl, hi2, h1, h2, h3, h4, h5, h6⟩, fun x H3 hx => ?_⟩
          obtain ⟨x3, r3, dx⟩ := yl x H3 hx
          have eA3 := x3.keep A _ eA hAL
          have slw : SlDen (g.blk A) L2 H3 (clr vs σd) (wipe σ vs) := fun j e ej => by
            obtain ⟨e1, hj⟩ := clr_some ej
            obtain ⟨w, ew, dw⟩ := sl1 j e e1
            exact ⟨w, by rw [wipe_out hj]; exact ew, dw.gx r1 gx (x2.trans x3)⟩
          refine hg (g.blk A) L2 S2 H3 x d _ σ1 _ _ rfl r3 slw (by rw [wipe_length]; exact hNl) dx e1 fun σ' sl' hl' out => ?_
          refine ⟨wipe_eq (hl'.trans (wipe_length _ _)) fun j hj => by rw [out j hj, wipe_out hj], ?_⟩
          refine htt (g.blk A) rfl rfl σ' H3 _ ⟨L2, σ1, S2, r3, sl', ?_⟩
          rw [em]
          intro L4 H4 x4 r4
          have hAL4 : A ∉ L4 := fun h => by
            have := x4.new A h hAL
            rw [eA3] at this; cases this
          have eA4 := x4.keep A _ eA3 hAL
          have dn4 : Dens (g.blk A) L4 H4 ds ws := Dens.ext r3 x4 (Dens.ext r2 x3.any dn)
          show if k = true then _ else _
          split at el
          · rename_i hk
            obtain ⟨y, S5, ee, el⟩ := bindN_ok el
            split at el
            · rename_i hz
              rw [if_pos hk]
              refine hte (g.blk A) rfl rfl σ' H4 _ ⟨L4, σ1, S3, r4, sl'.ext r3 x4, ?_⟩
              rw [ee]
              intro L5 H5 x5 r5 w dw
              have hAL5 : A ∉ L5 := fun h => by
                have := x5.new A h hAL4
                rw [eA4] at this; cases this
              have eA5 := x5.keep A _ eA4 hAL4
              have dn5 : Dens (g.blk A) L5 H5 ds ws := Dens.ext r4 x5 dn4
              refine ⟨ws, eA5, by rw [← Paired.len dn5]; exact hz, L5, S5, ds ++ [y], ws ++ [w], ?_, hAL5, r5.updB eA5 hAL5 (r1h0 r1 hA), upd_same, Paired.app (Paired.imp dn5 fun _ _ q => Den.updB r5 q) (.cons (Den.updB r5 dw) .nil), by rw [hr]; exact el⟩
              exact Ext.upd1 hAL5 eA5 (((x2.trans x3).trans x4.any).trans x5.any) hA
            · cases el
          · rename_i hk
            rw [if_neg hk]
            exact ⟨L4, S3, ds, ws, (x2.trans x3).trans x4.any, hAL4, r4, eA4, dn4, by rw [hr]; exact el⟩
        · cases el
      · cases el

theorem PTs.ex {X : Cx} {K : PySem.W.Frag} {mg : Str → Option Value} {ifs : List Expr} (h : ∀ g' : G, g'.K = K → g'.mg = mg → PTs X ifs (TB g' EN mt)) : PTs X ifs (fun σ H Q => ∃ g' : G, g'.K = K ∧ g'.mg = mg ∧ TB g' EN mt σ H Q) :=
  ⟨fun p s σ H Q I ⟨g', e1, e2, q⟩ => (h g' e1 e2).run p s σ H Q I q⟩
theorem PE.ex {X : Cx} {K : PySem.W.Frag} {mg : Str → Option Value} {e : Expr} (h : ∀ g' : G, g'.K = K → g'.mg = mg → PE X e (T g' EN me)) : PE X e (fun σ H Q => ∃ g' : G, g'.K = K ∧ g'.mg = mg ∧ T g' EN me σ H Q) :=
  ⟨fun p s σ H Q I ⟨g', e1, e2, q⟩ => (h g' e1 e2).run p s σ H Q I q⟩
theorem ptsx_nil {X : Cx} : PTs X [] (TB g EN (mRet true)) := ⟨fun p s σ H Q I ⟨L, σd, S, rp, sl, ev⟩ => pts_nil.run p s σ H Q I (Ev.ok (P := PB Q) (E := EN) (a := true) ev rp)⟩
theorem ptsx_one {X : Cx} {c : Expr} (h : PT X c (TB g EN mt)) : PTs X [c] (TB g EN mt) := pts_one h
theorem mkF_ok {Q : VK} (hw : ∀ a ∈ g.as, g.W a) {A : Addr} {L1 : List Addr} {S1 : Sto} {H1 : Hp} {L : List Addr} {S : Sto} {H : Hp} {ds : List D} {vs : List V} (r1 : RepS g L1 S1 H1) (hA : H1 A = none) (x : Ext g L1 H1 L H) (r : RepS (g.blk A) L S H) (e : H A = some (.lst vs)) (dn : Dens (g.blk A) L H ds vs) (hn : A ∉ L)
    (σd' : Sl) (ev : Ev g E L1 H1 (mkF ds σd' S) (PV g Q)) : Q (.ref A) H := by
  unfold mkF at ev
  split at ev
  · rename_i zs ez
    rw [pdL_eq ez] at dn
    have hno : ¬ g.wr L A := fun w => w.elim (fun w => r1.free hA (.inl w)) hn
    exact ev L H x (blk_back r hw) (.ref A) (.pd (.lst hno (.inl e) ((dens_dz dn).anti fun b w => w.imp .inl id)))
  · exact ev.elim
theorem mkM_ok {Q : VK} (hw : ∀ a ∈ g.as, g.W a) {A : Addr} {L1 : List Addr} {S1 : Sto} {H1 : Hp} {L : List Addr} {S : Sto} {H : Hp} {ds : List D} {vs : List V} (r1 : RepS g L1 S1 H1) (hA : H1 A = none) (x : Ext g L1 H1 L H) (r : RepS (g.blk A) L S H) (e : H A = some (.lst vs)) (dn : Dens (g.blk A) L H ds vs) (hn : A ∉ L)
    (σd' : Sl) (ev : Ev g E L1 H1 (mkM ds σd' S) (PV g Q)) : Q (.ref A) H := by
  unfold mkM at ev
  have hL : S.length = L.length := Paired.len r.obs
  refine ev (L ++ [A]) H ⟨x.pre.trans (List.prefix_append _ _), fun a h na => ?_, x.keep, x.there⟩ (blk_adopt r hw e hn (fun w => r1.free hA (.inl w)) (r1h0 r1 hA) dn) (.ref A) (.ref (by rw [hL]; simp))
  rcases List.mem_append.mp h with h | h
  · exact x.new a h na
  · have : a = A := by simpa using h
    rw [this]; exact hA
theorem PE.len {X : Cx} {e : Expr} {t : TE} (h : PE X e t) : PE X e (fun σ H Q => σ.length = X.N.length → t σ H Q) := ⟨fun p s σ H Q I q => h.run p s σ H Q I (q I.len)⟩
theorem T.asW {m : DM D} {Q : VK} (h : T g E m σ H Q) : ∀ a ∈ g.as, g.W a := let ⟨_, _, _, r, _⟩ := h; r.asW
/-- [e for t in it if ..] -/
theorem px_lc (hK : X.K = g.K) (hmg : X.mg = g.mg) (hc : X.calm = true) (hN : X.N.Nodup) (hi : PI X tg iter (TW g E mw)) (ok : BlkOk X.N X.env.scope scope own)
    (hg : ∀ (s : Shared) (H : Hp) (C : Addr) (cl : List (Str × Addr)) (fp : List Addr), PG (X.blk s H scope (compEnvC scope cl C X.env) fp) tg gt) (tr : TgR X.K X.N (own.map (·.2)) gt t)
    (ht : ∀ (s : Shared) (H : Hp) (C : Addr) (cl : List (Str × Addr)) (fp : List Addr) (g' : G), X.K = g'.K → X.mg = g'.mg → PTs (X.blk s H scope (compEnvC scope cl C X.env) fp) ifs (TB g' EN mt))
    (he : ∀ (s : Shared) (H : Hp) (C : Addr) (cl : List (Str × Addr)) (fp : List Addr) (g' : G), X.K = g'.K → X.mg = g'.mg → PE (X.blk s H scope (compEnvC scope cl C X.env) fp) elt (T g' EN me)) (hs : ∀ x, foldedSetIterable iter X.env x = pure x := by intro _; rfl) :
    PE X (.ListComp elt [⟨tg, iter, ifs, 0⟩] scope pos) (T g E (eLc (own.map (·.2)) mw t mt me)) :=
  PE.imp (PE.len (pe_lc hc hN hi ok hg (fun s H C cl fp => PTs.ex (K := g.K) (mg := g.mg) fun g' e1 e2 => ht s H C cl fp g' (hK.trans e1.symm) (hmg.trans e2.symm)) (fun s H C cl fp => PE.ex (K := g.K) (mg := g.mg) fun g' e1 e2 => he s H C cl fp g' (hK.trans e1.symm) (hmg.trans e2.symm)) hs)) fun σ H Q h hl =>
    lc_reads (N := X.N) (by rw [← hK]; exact tr) (fun _ _ _ => trivial) (fun g' e1 e2 σ H Q q => ⟨g', e1, e2, q⟩) (fun g' e1 e2 σ H Q q => ⟨g', e1, e2, q⟩) (fun _ _ _ q => q)
      (fun A L1 S1 H1 L S H ds vs r1 hA x r e dn hn σd' ev => mkF_ok h.asW r1 hA x r e dn hn σd' ev) h hl
theorem px_lcM (hK : X.K = g.K) (hmg : X.mg = g.mg) (hc : X.calm = true) (hN : X.N.Nodup) (hi : PI X tg iter (TW g E mw)) (ok : BlkOk X.N X.env.scope scope own)
    (hg : ∀ (s : Shared) (H : Hp) (C : Addr) (cl : List (Str × Addr)) (fp : List Addr), PG (X.blk s H scope (compEnvC scope cl C X.env) fp) tg gt) (tr : TgR X.K X.N (own.map (·.2)) gt t)
    (ht : ∀ (s : Shared) (H : Hp) (C : Addr) (cl : List (Str × Addr)) (fp : List Addr) (g' : G), X.K = g'.K → X.mg = g'.mg → PTs (X.blk s H scope (compEnvC scope cl C X.env) fp) ifs (TB g' EN mt))
    (he : ∀ (s : Shared) (H : Hp) (C : Addr) (cl : List (Str × Addr)) (fp : List Addr) (g' : G), X.K = g'.K → X.mg = g'.mg → PE (X.blk s H scope (compEnvC scope cl C X.env) fp) elt (T g' EN me)) (hs : ∀ x, foldedSetIterable iter X.env x = pure x := by intro _; rfl) :
    PE X (.ListComp elt [⟨tg, iter, ifs, 0⟩] scope pos) (T g E (eLcM (own.map (·.2)) mw t mt me)) :=
  PE.imp (PE.len (pe_lc hc hN hi ok hg (fun s H C cl fp => PTs.ex (K := g.K) (mg := g.mg) fun g' e1 e2 => ht s H C cl fp g' (hK.trans e1.symm) (hmg.trans e2.symm)) (fun s H C cl fp => PE.ex (K := g.K) (mg := g.mg) fun g' e1 e2 => he s H C cl fp g' (hK.trans e1.symm) (hmg.trans e2.symm)) hs)) fun σ H Q h hl =>
    lc_reads (N := X.N) (by rw [← hK]; exact tr) (fun _ _ _ => trivial) (fun g' e1 e2 σ H Q q => ⟨g', e1, e2, q⟩) (fun g' e1 e2 σ H Q q => ⟨g', e1, e2, q⟩) (fun _ _ _ q => q)
      (fun A L1 S1 H1 L S H ds vs r1 hA x r e dn hn σd' ev => mkM_ok h.asW r1 hA x r e dn hn σd' ev) h hl
/-- name = [e for ..] on one line -/
theorem qs_setLcG {i : Nat} {y : Str} {py spos : Pos} {mk : List D → DM D} (hmkM : mk = mkF ∨ mk = mkM) (hK : X.K = g.K) (hmg : X.mg = g.mg) (hc : X.calm = true) (hN : X.N.Nodup) (hy : X.N[i]? = some y) (hyl : X.env.scope.names.lookup y = some .local)
    (hsw : swapsWith (.ListComp elt [⟨tg, iter, ifs, 0⟩] scope pos) (some (.Name y py)) spos.line X.env = pure true) (hi : PI X tg iter (TW g E mw)) (ok : BlkOk X.N X.env.scope scope own)
    (hg : ∀ (s : Shared) (H : Hp) (C : Addr) (cl : List (Str × Addr)) (fp : List Addr), PG (X.blk s H scope (compEnvC scope cl C X.env) fp) tg gt) (tr : TgR X.K X.N (own.map (·.2)) gt t)
    (ht : ∀ (s : Shared) (H : Hp) (C : Addr) (cl : List (Str × Addr)) (fp : List Addr) (g' : G), X.K = g'.K → X.mg = g'.mg → PTs (X.blk s H scope (compEnvC scope cl C X.env) fp) ifs (TB g' EN mt))
    (he : ∀ (s : Shared) (H : Hp) (C : Addr) (cl : List (Str × Addr)) (fp : List Addr) (g' : G), X.K = g'.K → X.mg = g'.mg → PE (X.blk s H scope (compEnvC scope cl C X.env) fp) elt (T g' EN me)) (hs : ∀ x, foldedSetIterable iter X.env x = pure x := by intro _; rfl) :
    PS X (.Assign [.Name y py] (.ListComp elt [⟨tg, iter, ifs, 0⟩] scope pos) spos) (TSt g E (sSet i (mBind (lcAll (own.map (·.2)) mw t mt me) mk))) :=
  PS.imp (PS.len (ps_setLc hc hN hy hyl hsw hi ok hg (fun s H C cl fp => PTs.ex (K := g.K) (mg := g.mg) fun g' e1 e2 => ht s H C cl fp g' (hK.trans e1.symm) (hmg.trans e2.symm)) (fun s H C cl fp => PE.ex (K := g.K) (mg := g.mg) fun g' e1 e2 => he s H C cl fp g' (hK.trans e1.symm) (hmg.trans e2.symm)) hs)) fun D σ H h hl => by
    obtain ⟨L, σd, S, rp, sl, ev⟩ := h
    have hl2 : i < σ.length := by rw [hl]; exact (List.getElem?_eq_some_iff.mp hy).1
    have h2 : T g E (mBind (lcAll (own.map (·.2)) mw t mt me) mk) σ H (fun x H1 => gName i x σ H1 D.nx) := ⟨L, σd, S, rp, sl, (Ev.bind ev).imp fun d S' L' H' x r' ev' v dn => ev'.ok r' _ ((sl.ext rp x).put dn i hl2)⟩
    refine lc_reads (N := X.N) (by rw [← hK]; exact tr) (fun _ _ _ => trivial) (fun g' e1 e2 σ H Q q => ⟨g', e1, e2, q⟩) (fun g' e1 e2 σ H Q q => ⟨g', e1, e2, q⟩) (fun _ _ _ q => q)
      (fun A L1 S1 H1 L S H ds vs r1 hA x r e dn hn σd' ev => ?_) h2 hl
    rcases hmkM with rfl | rfl
    · exact mkF_ok h2.asW r1 hA x r e dn hn σd' ev
    · exact mkM_ok h2.asW r1 hA x r e dn hn σd' ev
end
end DL
end
section
namespace DL
open PySem PySem.Spec PyProof.Rows L2
open Classical

/-! ### built-in functions -/
abbrev LF := List D → Sto → Out D
def CallX (X : Cx) (g : G) (f : Value) (op : LF) : Prop :=
  ∀ E : WX, CallR X f (fun xs H Q => ∃ L S ds, RepS g L S H ∧ Dens g L H ds xs ∧ Ev g E L H (op ds S) (PV g Q))
def eCall (op : LF) (ml : DM (List D)) : DM D := mBind ml fun ds => fun _ S => op ds S
section
variable {g g' : G} {E : WX} {L L' L0 : List Addr} {H H' H0 : Hp} {S S' : Sto} {σd : Sl} {σ : L2.St} {v : V} {d : D}
variable {X : Cx} {x : Str} {p p2 pos : Pos} {e a b : Expr} {es : List Expr} {ml : DM (List D)} {ma mb : DM D} {bid Ty : String} {op : LF}
theorem px_callB (hc : CallX X g (.builtin bid) op) (hg : Gl X x) (hm : X.mg x = none) (hv : bootBuiltins x = some (.builtin bid)) (ha : PA X (e :: es) (TL g E ml)) (hn : x ≠ "__name__" := by decide) (hdb : (x == ("__debug__" : Str)) = false := by decide)
    (he : starEach (e :: es) X.env = (false, eval e X.env) :: starEach es X.env := by rfl) (hpl : (backTo pos (starEach es X.env)).any (·.1) = false := by rfl) : PE X (.Call (.Name x p) (e :: es) [] pos) (T g E (eCall op ml)) :=
  PE.imp (pe_callB (hc E) hg hm hv ha hn hdb he hpl) fun σ H Q ⟨L, σd, S, rp, sl, ev⟩ => ⟨L, σd, S, rp, sl, ev.step fun ds S1 L1 H1 x1 r1 ev1 vs dn => ⟨L1, S1, ds, r1, dn, ev1⟩⟩
theorem px_callTy (hc : CallX X g (.type Ty) op) (hg : Gl X x) (hm : X.mg x = none) (hv : bootBuiltins x = some (.type Ty)) (ha : PA X (e :: es) (TL g E ml)) (hn : x ≠ "__name__" := by decide) (hdb : (x == ("__debug__" : Str)) = false := by decide)
    (he : starEach (e :: es) X.env = (false, eval e X.env) :: starEach es X.env := by rfl) (hpl : (backTo pos (starEach es X.env)).any (·.1) = false := by rfl) : PE X (.Call (.Name x p) (e :: es) [] pos) (T g E (eCall op ml)) :=
  PE.imp (pe_callTy (hc E) hg hm hv ha hn hdb he hpl) fun σ H Q ⟨L, σd, S, rp, sl, ev⟩ => ⟨L, σd, S, rp, sl, ev.step fun ds S1 L1 H1 x1 r1 ev1 vs dn => ⟨L1, S1, ds, r1, dn, ev1⟩⟩

def fLen : LF := fun ds S => match ds with
  | [.pd (.str x)] => if x.length ≤ sizeLine then .ok (.int x.length) S else .stuck
  | [.ref n] => match S[n]? with
    | some (.lst xs) => .ok (.int xs.length) S
    | some (.dct xs) => .ok (.int xs.length) S
    | _ => .stuck
  | [d] => match asQ S d with
    | some xs => .ok (.int xs.length) S
    | none => .stuck
  | _ => .stuck
theorem cx_len (hk : X.K = g.K) : CallX X g (.builtin "len") fLen := by
  intro E pins s σ H xs us Q I r h
  obtain ⟨L, S, ds, rp, dn, ev⟩ := h
  unfold fLen at ev
  split at ev
  · cases dn with
    | cons d1 d2 =>
      cases d2
      cases den_str d1
      split at ev
      · rename_i hz
        exact call_len_str pins s σ H _ us Q I r ⟨_, rfl, hz, fin_val rp ev (.pd (.int _))⟩
      · exact ev.elim
  · rename_i n
    cases dn with
    | cons d1 d2 =>
      cases d2
      cases d1 with
      | @ref _ a hn =>
        split at ev
        · rename_i ys hs
          obtain ⟨a', ha, od⟩ := rp.ob hs
          rw [hn] at ha
          cases ha
          cases od with
          | lst q dz => exact call_len_seq pins s σ H _ us Q I r ⟨a, _, rfl, .inl (.inl (.inl q)), fin_val rp ev (by rw [Paired.len dz]; exact .pd (.int _))⟩
        · rename_i ys hs
          obtain ⟨a', ha, od⟩ := rp.ob hs
          rw [hn] at ha
          cases ha
          cases od with
          | @dct _ ws q dz =>
            obtain ⟨u, rfl, ru⟩ := vals1 r
            cases ru
            exact d_len I (.inl q) fun t s' I' => ⟨.int _, H, I', ⟨t, rfl⟩, fin_val rp ev (by rw [Paired.len dz]; exact .pd (.int _))⟩
        · exact ev.elim
  · rename_i d _ _
    cases dn with
    | cons d1 d2 =>
      cases d2
      split at ev
      · rename_i ys ey
        obtain ⟨a, vs, rfl, rd, dz⟩ := asQ_ok rp d1 ey
        rw [← hk] at rd
        exact call_len_seq pins s σ H _ us Q I r ⟨a, _, rfl, rd, fin_val rp ev (by rw [Paired.len dz]; exact .pd (.int _))⟩
      · exact ev.elim
  · exact ev.elim
def fInt : LF := fun ds S => match ds with
  | [.pd (.int i)] => .ok (.int i) S
  | [.pd (.bool k)] => .ok (.int (if k then 1 else 0)) S
  | _ => .stuck
theorem cx_int : CallX X g (.type "int") fInt := by
  intro E pins s σ H xs us Q I r h
  obtain ⟨L, S, ds, rp, dn, ev⟩ := h
  unfold fInt at ev
  split at ev
  · cases dn with
    | cons d1 d2 =>
      cases d2
      cases den_int d1
      exact call_int1 pins s σ H _ us Q I r (.inl ⟨_, rfl, fin_val rp ev (.pd (.int _))⟩)
  · cases dn with
    | cons d1 d2 =>
      cases d2
      cases den_bl d1
      exact call_int1 pins s σ H _ us Q I r (.inr ⟨_, rfl, fin_val rp ev (.pd (.int _))⟩)
  · exact ev.elim
def fAbs : LF := fun ds S => match ds with
  | [.pd (.int i)] => .ok (.int (if i < 0 then -i else i)) S
  | _ => .stuck
theorem cx_abs : CallX X g (.builtin "abs") fAbs := by
  intro E pins s σ H xs us Q I r h
  obtain ⟨L, S, ds, rp, dn, ev⟩ := h
  unfold fAbs at ev
  split at ev
  · cases dn with
    | cons d1 d2 =>
      cases d2
      cases den_int d1
      exact call_abs pins s σ H _ us Q I r ⟨_, rfl, fin_val rp ev (.pd (.int _))⟩
  · exact ev.elim
def fMax2 : LF := fun ds S => match ds with
  | [.pd (.int i), .pd (.int j)] => .ok (.int (if j > i then j else i)) S
  | _ => .stuck
def fMin2 : LF := fun ds S => match ds with
  | [.pd (.int i), .pd (.int j)] => .ok (.int (if j < i then j else i)) S
  | _ => .stuck
theorem cx_max2 (hc : X.calm = true) : CallX X g (.builtin "max") fMax2 := by
  intro E pins s σ H xs us Q I r h
  obtain ⟨L, S, ds, rp, dn, ev⟩ := h
  unfold fMax2 at ev
  split at ev
  · cases dn with
    | cons d1 d2 =>
      cases d2 with
      | cons d2 d3 =>
        cases d3
        cases den_int d1
        cases den_int d2
        exact call_max2 hc pins s σ H _ us Q I r ⟨_, _, rfl, fin_val rp ev (.pd (.int _))⟩
  · exact ev.elim
theorem cx_min2 (hc : X.calm = true) : CallX X g (.builtin "min") fMin2 := by
  intro E pins s σ H xs us Q I r h
  obtain ⟨L, S, ds, rp, dn, ev⟩ := h
  unfold fMin2 at ev
  split at ev
  · cases dn with
    | cons d1 d2 =>
      cases d2 with
      | cons d2 d3 =>
        cases d3
        cases den_int d1
        cases den_int d2
        exact call_min2 hc pins s σ H _ us Q I r ⟨_, _, rfl, fin_val rp ev (.pd (.int _))⟩
  · exact ev.elim
/-- the ints of a list -/
def intsOf (S : Sto) (d : D) : Option (List Int) := match asL S d with
  | some xs => match pdL xs with
    | some zs => intsL zs
    | none => none
  | none => none
theorem intsOf_ok (r : RepS g L S H) (dn : Den g L H d v) {ns : List Int} (e : intsOf S d = some ns) : ∃ a, v = .ref a ∧ Rd H a (.lst (ns.map V.int)) := by
  unfold intsOf at e
  split at e
  · rename_i xs ex
    split at e
    · rename_i zs ez
      obtain ⟨a, vs, rfl, rd, dz⟩ := asL_ok r dn ex
      have z := dens_dz (pdL_eq ez ▸ dz)
      rw [intsL_eq e] at z
      rw [z.ints] at rd
      exact ⟨a, rfl, rd⟩
    · cases e
  · cases e
def leastI : List Int → Int
  | [] => 0
  | [x] => x
  | x :: xs => min x (leastI xs)
def mostI : List Int → Int
  | [] => 0
  | [x] => x
  | x :: xs => max x (mostI xs)
theorem leastI_spec : ∀ {ns : List Int}, ns ≠ [] → leastI ns ∈ ns ∧ ∀ y ∈ ns, leastI ns ≤ y
  | [], h => absurd rfl h
  | [x], _ => ⟨by simp [leastI], fun y hy => by simp at hy; subst hy; exact Int.le_refl _⟩
  | x :: y :: r, _ => by
    obtain ⟨h1, h2⟩ := leastI_spec (ns := y :: r) (by simp)
    have e : leastI (x :: y :: r) = min x (leastI (y :: r)) := rfl
    rw [e]
    refine ⟨?_, fun z hz => ?_⟩
    · rcases Int.le_total x (leastI (y :: r)) with q | q
      · rw [Int.min_eq_left q]; exact List.mem_cons_self
      · rw [Int.min_eq_right q]; exact List.mem_cons_of_mem _ h1
    · rcases List.mem_cons.mp hz with rfl | hz
      · exact Int.min_le_left _ _
      · exact Int.le_trans (Int.min_le_right _ _) (h2 z hz)
theorem mostI_spec : ∀ {ns : List Int}, ns ≠ [] → mostI ns ∈ ns ∧ ∀ y ∈ ns, y ≤ mostI ns
  | [], h => absurd rfl h
  | [x], _ => ⟨by simp [mostI], fun y hy => by simp at hy; subst hy; exact Int.le_refl _⟩
  | x :: y :: r, _ => by
    obtain ⟨h1, h2⟩ := mostI_spec (ns := y :: r) (by simp)
    have e : mostI (x :: y :: r) = max x (mostI (y :: r)) := rfl
    rw [e]
    refine ⟨?_, fun z hz => ?_⟩
    · rcases Int.le_total x (mostI (y :: r)) with q | q
      · rw [Int.max_eq_right q]; exact List.mem_cons_of_mem _ h1
      · rw [Int.max_eq_left q]; exact List.mem_cons_self
    · rcases List.mem_cons.mp hz with rfl | hz
      · exact Int.le_max_left _ _
      · exact Int.le_trans (h2 z hz) (Int.le_max_right _ _)
def fMin1 : LF := fun ds S => match ds with
  | [d] => match intsOf S d with
    | some ns => if ns ≠ [] then .ok (.int (leastI ns)) S else .stuck
    | none => .stuck
  | _ => .stuck
def fMax1 : LF := fun ds S => match ds with
  | [d] => match intsOf S d with
    | some ns => if ns ≠ [] then .ok (.int (mostI ns)) S else .stuck
    | none => .stuck
  | _ => .stuck
def fSum1 : LF := fun ds S => match ds with
  | [d] => match intsOf S d with
    | some ns => .ok (.int ns.sum) S
    | none => .stuck
  | _ => .stuck
theorem cx_min1 (hc : X.calm = true) : CallX X g (.builtin "min") fMin1 := by
  intro E pins s σ H xs us Q I r h
  obtain ⟨L, S, ds, rp, dn, ev⟩ := h
  unfold fMin1 at ev
  split at ev
  · cases dn with
    | cons d1 d2 =>
      cases d2
      split at ev
      · rename_i ns en
        split at ev
        · rename_i hne
          obtain ⟨a, rfl, rd⟩ := intsOf_ok rp d1 en
          refine cr_min hc pins s σ H _ us Q I r ⟨a, ns, rfl, .inl rd, List.length_pos_iff.mpr hne, fun m hm hle => ?_⟩
          obtain ⟨h1, h2⟩ := leastI_spec hne
          have : m = leastI ns := Int.le_antisymm (hle _ h1) (h2 _ hm)
          subst this
          exact fin_val rp ev (.pd (.int _))
        · exact ev.elim
      · exact ev.elim
  · exact ev.elim
theorem cx_max1 (hc : X.calm = true) : CallX X g (.builtin "max") fMax1 := by
  intro E pins s σ H xs us Q I r h
  obtain ⟨L, S, ds, rp, dn, ev⟩ := h
  unfold fMax1 at ev
  split at ev
  · cases dn with
    | cons d1 d2 =>
      cases d2
      split at ev
      · rename_i ns en
        split at ev
        · rename_i hne
          obtain ⟨a, rfl, rd⟩ := intsOf_ok rp d1 en
          refine cr_max hc pins s σ H _ us Q I r ⟨a, ns, rfl, .inl rd, List.length_pos_iff.mpr hne, fun m hm hle => ?_⟩
          obtain ⟨h1, h2⟩ := mostI_spec hne
          have : m = mostI ns := Int.le_antisymm (h2 _ hm) (hle _ h1)
          subst this
          exact fin_val rp ev (.pd (.int _))
        · exact ev.elim
      · exact ev.elim
  · exact ev.elim
theorem cx_sum1 (hc : X.calm = true) : CallX X g (.builtin "sum") fSum1 := by
  intro E pins s σ H xs us Q I r h
  obtain ⟨L, S, ds, rp, dn, ev⟩ := h
  unfold fSum1 at ev
  split at ev
  · cases dn with
    | cons d1 d2 =>
      cases d2
      split at ev
      · rename_i ns en
        obtain ⟨a, rfl, rd⟩ := intsOf_ok rp d1 en
        exact cr_sum hc pins s σ H _ us Q I r ⟨a, ns, rfl, .inl rd, fin_val rp ev (.pd (.int _))⟩
      · exact ev.elim
  · exact ev.elim
def blsL : List PyData → Option (List Bool)
  | [] => some []
  | .bool b :: r => (blsL r).map (b :: ·)
  | _ :: _ => none
theorem blsL_eq : ∀ {ds : List PyData} {xs : List Bool}, blsL ds = some xs → ds = xs.map .bool
  | [], xs, h => by cases h; rfl
  | .bool x :: r, xs, h => by
    rw [blsL] at h
    cases e : blsL r with
    | none => rw [e] at h; cases h
    | some ys => rw [e] at h; cases h; rw [List.map_cons, blsL_eq e]
  | .none :: r, xs, h => by cases h
  | .int _ :: r, xs, h => by cases h
  | .str _ :: r, xs, h => by cases h
  | .list _ :: r, xs, h => by cases h
  | .tuple _ :: r, xs, h => by cases h
  | .dict _ :: r, xs, h => by cases h
@[simp] theorem blsL_map : ∀ xs : List Bool, blsL (xs.map .bool) = some xs
  | [] => rfl
  | x :: xs => by rw [List.map_cons, blsL, blsL_map xs]; rfl
theorem DzAll.bls {K : PySem.W.Frag} {W : Addr → Prop} : ∀ {xs : List Bool} {vs : List V}, DzAll K W H vs (xs.map .bool) → vs = xs.map V.bl
  | [], _, h => by cases h; rfl
  | x :: xs, _, h => by
    cases h with
    | cons h1 h2 => cases h1; rw [DzAll.bls h2]; rfl
def blsOf (S : Sto) (d : D) : Option (List Bool) := match asL S d with
  | some xs => match pdL xs with
    | some zs => blsL zs
    | none => none
  | none => none
theorem blsOf_ok (r : RepS g L S H) (dn : Den g L H d v) {ns : List Bool} (e : blsOf S d = some ns) : ∃ a, v = .ref a ∧ Rd H a (.lst (ns.map V.bl)) := by
  unfold blsOf at e
  split at e
  · rename_i xs ex
    split at e
    · rename_i zs ez
      obtain ⟨a, vs, rfl, rd, dz⟩ := asL_ok r dn ex
      have z := dens_dz (pdL_eq ez ▸ dz)
      rw [blsL_eq e] at z
      rw [z.bls] at rd
      exact ⟨a, rfl, rd⟩
    · cases e
  · cases e
def fAll : LF := fun ds S => match ds with
  | [d] => match blsOf S d with
    | some bs => .ok (.bl (bs.all fun b => b)) S
    | none => .stuck
  | _ => .stuck
def fAny : LF := fun ds S => match ds with
  | [d] => match blsOf S d with
    | some bs => .ok (.bl (bs.any fun b => b)) S
    | none => .stuck
  | _ => .stuck
theorem cx_all (hc : X.calm = true) : CallX X g (.builtin "all") fAll := by
  intro E pins s σ H xs us Q I r h
  obtain ⟨L, S, ds, rp, dn, ev⟩ := h
  unfold fAll at ev
  split at ev
  · cases dn with
    | cons d1 d2 =>
      cases d2
      split at ev
      · rename_i ns en
        obtain ⟨a, rfl, rd⟩ := blsOf_ok rp d1 en
        exact cr_all hc pins s σ H _ us Q I r ⟨a, ns, rfl, .inl rd, fin_val rp ev (.pd (.bl _))⟩
      · exact ev.elim
  · exact ev.elim
theorem cx_any (hc : X.calm = true) : CallX X g (.builtin "any") fAny := by
  intro E pins s σ H xs us Q I r h
  obtain ⟨L, S, ds, rp, dn, ev⟩ := h
  unfold fAny at ev
  split at ev
  · cases dn with
    | cons d1 d2 =>
      cases d2
      split at ev
      · rename_i ns en
        obtain ⟨a, rfl, rd⟩ := blsOf_ok rp d1 en
        exact cr_any hc pins s σ H _ us Q I r ⟨a, ns, rfl, .inl rd, fin_val rp ev (.pd (.bl _))⟩
      · exact ev.elim
  · exact ev.elim
/-- tuple(list), tuple(tuple) -/
def fTuple : LF := fun ds S => match ds with
  | [.pd (.tuple xs)] => .ok (.tup xs) S
  | [d] => match asL S d with
    | some xs => match pdL xs with
      | some zs => .ok (.tup zs) S
      | none => .stuck
    | none => .stuck
  | _ => .stuck
theorem cx_tuple (hk : X.K = g.K) : CallX X g (.type "tuple") fTuple := by
  intro E pins s σ H xs us Q I r h
  obtain ⟨L, S, ds, rp, dn, ev⟩ := h
  unfold fTuple at ev
  split at ev
  · cases dn with
    | cons d1 d2 =>
      cases d2
      obtain ⟨a, vs, rfl, rd, dz⟩ := den_tup d1
      rw [← hk] at rd
      exact call_tuple_of pins s σ H _ us Q I r ⟨a, vs, rfl, .inr ⟨rd, fin_val rp ev d1⟩⟩
  · cases dn with
    | cons d1 d2 =>
      cases d2
      split at ev
      · rename_i ys ey
        split at ev
        · rename_i zs ez
          obtain ⟨a, vs, rfl, rd, dz⟩ := asL_ok rp d1 ey
          have z := dens_dz (pdL_eq ez ▸ dz)
          exact call_tuple_of pins s σ H _ us Q I r ⟨a, vs, rfl, .inl ⟨.inl rd, fin_tup rp ev z⟩⟩
        · exact ev.elim
      · exact ev.elim
  · exact ev.elim
/-- list(list), list(tuple), a list that stays; one of the store's -/
def fList : LF := fun ds S => match ds with
  | [d] => match asQ S d with
    | some xs => match pdL xs with
      | some zs => .ok (.lst zs) S
      | none => .stuck
    | none => .stuck
  | _ => .stuck
def fListM : LF := fun ds S => match ds with
  | [d] => match asQ S d with
    | some xs => .ok (.ref S.length) (S ++ [.lst xs])
    | none => .stuck
  | _ => .stuck
theorem cx_list (hk : X.K = g.K) : CallX X g (.type "list") fList := by
  intro E pins s σ H xs us Q I r h
  obtain ⟨L, S, ds, rp, dn, ev⟩ := h
  unfold fList at ev
  split at ev
  · cases dn with
    | cons d1 d2 =>
      cases d2
      split at ev
      · rename_i ys ey
        split at ev
        · rename_i zs ez
          obtain ⟨a, vs, rfl, rd, dz⟩ := asQ_ok rp d1 ey
          rw [← hk] at rd
          have z := dens_dz (pdL_eq ez ▸ dz)
          exact call_list_of pins s σ H _ us Q I r ⟨a, vs, rfl, rd, fin_lst rp ev z⟩
        · exact ev.elim
      · exact ev.elim
  · exact ev.elim
theorem cx_listM (hk : X.K = g.K) : CallX X g (.type "list") fListM := by
  intro E pins s σ H xs us Q I r h
  obtain ⟨L, S, ds, rp, dn, ev⟩ := h
  unfold fListM at ev
  split at ev
  · cases dn with
    | cons d1 d2 =>
      cases d2
      split at ev
      · rename_i ys ey
        obtain ⟨a, vs, rfl, rd, dz⟩ := asQ_ok rp d1 ey
        rw [← hk] at rd
        exact call_list_of pins s σ H _ us Q I r ⟨a, vs, rfl, rd, fin_lstM rp ev dz⟩
      · exact ev.elim
  · exact ev.elim
/-- isinstance by a built-in class -/
inductive TyN where
  | int | bool | str | tuple | list | dict
def TyN.nm : TyN → String
  | .int => "int" | .bool => "bool" | .str => "str" | .tuple => "tuple" | .list => "list" | .dict => "dict"
def isTy (S : Sto) : TyN → D → Option Bool
  | .int, .pd (.int _) => some true
  | .int, .pd (.bool _) => some true
  | .bool, .pd (.bool _) => some true
  | .str, .pd (.str _) => some true
  | .tuple, .pd (.tuple _) => some true
  | .list, .pd (.list _) => some true
  | .dict, .pd (.dict _) => some true
  | _, .pd _ => some false
  | t, .ref n => match S[n]? with
    | some (.lst _) => match t with
      | .list => some true
      | _ => some false
    | some (.dct _) => match t with
      | .dict => some true
      | _ => some false
    | _ => none
  | _, .glob _ => none
  | _, .xt _ => none
def tyNm : PyData → String
  | .none => "NoneType" | .bool _ => "bool" | .int _ => "int" | .str _ => "str" | .list _ => "list" | .tuple _ => "tuple" | .dict _ => "dict"
theorem dz_ty {K : PySem.W.Frag} {W : Addr → Prop} {d : PyData} (h : Dz K W H v d) : TyX K H v (.type (tyNm d)) := by
  cases h with
  | non => exact .base .non
  | bl b => exact .base (.bl b)
  | int b => exact .base (.int b)
  | str b => exact .base (.str b)
  | lst n r _ =>
    rcases r with r | ⟨o, r⟩
    · exact .base (.lst r)
    · exact .base (.frz r)
  | tup r _ =>
    rcases r with (r | ⟨o, r⟩) | ⟨o, its, n, e, c, _⟩
    · exact .base (.tup r)
    · exact .fTuple r
    · exact .kTuple e c
  | dct n r _ _ =>
    rcases r with r | ⟨o, r⟩
    · exact .base (.dK r)
    · exact .fDict r
def eIsI (t : TyN) (m : DM D) : DM D := mBind m fun d => fun _ S => match isTy S t d with
  | some b => .ok (.bl b) S
  | none => .stuck
theorem kit_all (t : TyN) (d : PyData) : ∃ b, isTy S t (.pd d) = some b ∧ kitB (tyNm d) t.nm = some b := by
  cases t <;> cases d <;> first
    | exact ⟨true, rfl, by show kitB _ _ = some true; simp only [tyNm, TyN.nm]; decide +kernel⟩
    | exact ⟨false, rfl, by show kitB _ _ = some false; simp only [tyNm, TyN.nm]; decide +kernel⟩
theorem px_isi (hk : X.K = g.K) (t : TyN) {y : Str} (hy : y = Str.ofString t.nm) (hg : Gl X "isinstance") (hm : X.mg "isinstance" = none) (hg2 : Gl X y) (hm2 : X.mg y = none) (ha : PE X a (T g E ma))
    (he : starEach [a, .Name y p2] X.env = (false, eval a X.env) :: starEach [.Name y p2] X.env := by rfl) : PE X (.Call (.Name "isinstance" p) [a, .Name y p2] [] pos) (T g E (eIsI t ma)) := by
  have hT : PE X (.Name y p2) (tC (.ty t.nm)) := by
    subst hy
    refine pe_bltn (v := .ty t.nm) (u := .type t.nm) hg2 hm2 ?_ rfl ?_ ?_
    · cases t <;> decide +kernel
    · cases t <;> decide
    · cases t <;> decide
  refine PE.imp (pe_callB call_isi hg hm (by decide +kernel) (pa_cons ha (pa_cons hT pa_nil) he) (by decide) (by decide) he) fun σ H Q ⟨L, σd, S, rp, sl, ev⟩ => ⟨L, σd, S, rp, sl, ev.step fun d S1 L1 H1 x1 r1 ev1 v dn => ?_⟩
  cases eb : isTy S1 t d with
  | none => rw [eb] at ev1; exact ev1.elim
  | some b =>
    rw [eb] at ev1
    have tyx : ∃ nm, TyX X.K H1 v (.type nm) ∧ kitB nm t.nm = some b := by
      cases dn with
      | @pd d _ h =>
        obtain ⟨b', e1, e2⟩ := kit_all (S := S1) t d
        rw [eb] at e1
        cases e1
        exact ⟨_, by rw [hk]; exact dz_ty h, e2⟩
      | @ref n a hn =>
        unfold isTy at eb
        cases hs : S1[n]? with
        | none => simp only [hs] at eb; cases t <;> simp at eb
        | some ob =>
          obtain ⟨a', ha', od⟩ := r1.ob hs
          rw [hn] at ha'
          cases ha'
          cases od with
          | lst q _ =>
            refine ⟨"list", .base (.lst q), ?_⟩
            cases t <;> (simp only [hs] at eb; cases eb; decide +kernel)
          | dct q _ =>
            refine ⟨"dict", .base (.dK q), ?_⟩
            cases t <;> (simp only [hs] at eb; cases eb; decide +kernel)
          | dtt q _ => cases t <;> simp [hs] at eb
          | ins _ q _ => cases t <;> simp [hs] at eb
      | glob h => cases t <;> cases eb
      | xt _ _ _ => cases t <;> cases eb
    obtain ⟨nm, ty, kb⟩ := tyx
    exact ⟨v, .ty t.nm, .type nm, .type t.nm, b, rfl, .ty _, ty, kit_ty kb, fin_val r1 ev1 (.pd (.bl _))⟩
end
end DL
end
section
namespace DL
open PySem PySem.Spec PyProof.Rows L2
section
variable {g g' : G} {E : WX} {L L' L0 : List Addr} {H H' H0 : Hp} {S S' : Sto} {σd : Sl} {σ : L2.St} {v : V} {d : D}
variable {X : Cx} {x : Str} {p p2 pos : Pos} {e a b : Expr} {es : List Expr} {ml : DM (List D)} {ma mb : DM D} {bid Ty : String} {op : LF}

/-! ### repr -/
def reprOk (x : PyData) : Bool := !x.hasDict && x.showable && decide (x.depth ≤ 60) && decide (x.shown.length ≤ sizeLine)
def fRepr : LF := fun ds S => match ds with
  | [d] => match view S d with
    | some x => if reprOk x = true then .ok (.str x.shown) S else .stuck
    | none => .stuck
  | _ => .stuck
theorem cx_repr (hk : X.K = g.K) (hu : X.A.units + 64 < cLine) (hgd : X.A.guards = some []) : CallX X g (.builtin "repr") fRepr := by
  intro E pins s σ H xs us Q I r h
  obtain ⟨L, S, ds, rp, dn, ev⟩ := h
  unfold fRepr at ev
  split at ev
  · rename_i d
    cases dn with
    | cons d1 d2 =>
      cases d2
      split at ev
      · rename_i x ex
        split at ev
        · rename_i hr
          unfold reprOk at hr
          simp only [Bool.and_eq_true, Bool.not_eq_true', decide_eq_true_eq] at hr
          obtain ⟨⟨⟨h1, h2⟩, h3⟩, h4⟩ := hr
          have dp := view_dz rp d1 ex h1
          rw [← hk] at dp
          obtain ⟨u, rfl, ru⟩ := vals1 r
          have fin : ∀ {u tk h'}, (∀ b o, s.heap.get? b = some o → h'.get? b = some o) → EP X pins σ Q (.str x.shown u) { s with heap := h', toks := tk } := fun {u tk h'} k =>
            ⟨.str x.shown, H, I.kept k, ⟨u, rfl⟩, fin_val rp ev (.pd (.str _))⟩
          cases dp with
          | non => cases ru; exact PySem.P.repr_of_none (fin (h' := s.heap) fun _ _ e => e)
          | bl b => cases ru; exact PySem.P.repr_of_bool (by cases b <;> exact fin (h' := s.heap) fun _ _ e => e)
          | int i =>
            obtain ⟨t, rfl⟩ := ru
            exact PySem.P.repr_of_int (by simpa [PyData.showable] using h2) (fin (h' := s.heap) fun _ _ e => e)
          | str z =>
            obtain ⟨t, rfl⟩ := ru
            exact PySem.P.repr_of_str (fin (h' := s.heap) fun _ _ e => e) h4
          | lst hs ha =>
            obtain ⟨as, rd⟩ := Dp.reads I _ _ u (.lst hs ha) ru
            cases ru
            exact repr_of_reads' rd h2 (fun z => by rw [h1] at z; cases z) hgd (by omega) (fun _ _ e => e) (fun h' u tk k => fin k) h4
          | tup hs ha =>
            obtain ⟨as, rd⟩ := Dp.reads I _ _ u (.tup hs ha) ru
            cases ru
            exact repr_of_reads' rd h2 (fun z => by rw [h1] at z; cases z) hgd (by omega) (fun _ _ e => e) (fun h' u tk k => fin k) h4
        · exact ev.elim
      · exact ev.elim
  · exact ev.elim

/-! ### methods of built-in types -/
abbrev MF := D → List D → Sto → Out D
def MtX (X : Cx) (g : G) (id : String) (op : MF) : Prop :=
  ∀ E : WX, MtM X id (fun x xs H Q => ∃ L S d ds, RepS g L S H ∧ Den g L H d x ∧ Dens g L H ds xs ∧ Ev g E L H (op d ds S) (PV g Q))
def tyD (S : Sto) : D → Option String
  | .pd (.str _) => some "str"
  | .pd (.list _) => some "list"
  | .ref n => match S[n]? with
    | some (.lst _) => some "list"
    | some (.dct _) => some "dict"
    | some (.dtt _) => some "dict"
    | _ => none
  | _ => none
theorem tyD_ok {K : PySem.W.Frag} (hk : K = g.K) (r : RepS g L S H) (dn : Den g L H d v) {t : String} (e : tyD S d = some t) : tyV K t v H := by
  subst hk
  unfold tyD at e
  split at e
  · cases e; cases den_str dn; exact rfl
  · cases e
    obtain ⟨a, vs, rfl, rd, _⟩ := den_lst dn
    exact .inl ⟨rfl, _, .inl rd⟩
  · cases dn with
    | ref hn =>
      split at e
      · rename_i hs
        cases e
        obtain ⟨a, ha, od⟩ := r.ob hs
        rw [hn] at ha
        cases ha
        cases od with
        | lst q _ => exact .inl ⟨rfl, _, SqL.of q⟩
      · rename_i hs
        cases e
        obtain ⟨a, ha, od⟩ := r.ob hs
        rw [hn] at ha
        cases ha
        cases od with
        | dct q _ => exact .inr (.inr (.inl ⟨rfl, .inl ⟨_, q⟩⟩))
      · rename_i hs
        cases e
        obtain ⟨a, ha, od⟩ := r.ob hs
        rw [hn] at ha
        cases ha
        cases od with
        | dtt q _ => exact .inr (.inr (.inl ⟨rfl, .inr ⟨_, q⟩⟩))
      · cases e
  · cases e
def eMeth (t : String) (op : MF) (mo : DM D) (ml : DM (List D)) : DM D := mBind mo fun d => fun σ S => if tyD S d = some t then mBind ml (fun ds => fun _ S => op d ds S) σ S else .stuck
variable {o : Expr} {mo : DM D} {name : Str} {apos cpos : Pos} {Tn id : String} {mop : MF}
theorem px_bm (hk : X.K = g.K) (pa : PlainAttrs Tn) (slot : Slot Tn name id) (hty : typeOf (.builtin id) = pure (.type "method_descriptor")) (hm : MtX X g id mop) (ho : PE X o (T g E mo)) (ha : PA X (e :: es) (TL g E ml))
    (hbase : attributeBase o name X.env (eval o X.env) = eval o X.env := by rfl)
    (hfew : ((backTo cpos (starEach (e :: es) X.env)).all (fun x => !x.1) && (backToKw cpos (keywordEach [] X.env)).all (fun x => x.1.isSome)
      && decide ((e :: es).length + ([] : List Keyword).length + (if ([] : List Keyword).isEmpty then 0 else 1) < 30)) = true := by rfl)
    (hline : (apos.endLine == cpos.line) = true := by rfl) (hs : starEach (e :: es) X.env = (false, eval e X.env) :: starEach es X.env := by rfl) (hplain : (backTo cpos (starEach es X.env)).any (·.1) = false := by rfl) :
    PE X (.Call (.Attribute o name apos) (e :: es) [] cpos) (T g E (eMeth Tn mop mo ml)) :=
  PE.imp (pe_bm pa slot hty (hm E) ho ha hbase hfew hline hs hplain) fun σ H Q ⟨L, σd, S, rp, sl, ev⟩ => ⟨L, σd, S, rp, sl, ev.step fun d S1 L1 H1 x1 r1 ev1 v dn => by
    split at ev1
    · rename_i ht
      exact ⟨tyD_ok hk r1 dn ht, L1, σd, S1, r1, sl.ext rp x1, ev1.step fun ds S2 L2 H2 x2 r2 ev2 vs dns => ⟨L2, S2, d, ds, r2, dn.ext r1 x2, dns, ev2⟩⟩
    · exact ev1.elim⟩
theorem px_bm0 (hk : X.K = g.K) (pa : PlainAttrs Tn) (slot : Slot Tn name id) (hty : typeOf (.builtin id) = pure (.type "method_descriptor")) (hm : MtX X g id mop) (ho : PE X o (T g E mo))
    (hbase : attributeBase o name X.env (eval o X.env) = eval o X.env := by rfl) (hline : (apos.endLine == cpos.line) = true := by rfl) : PE X (.Call (.Attribute o name apos) [] [] cpos) (T g E (eMeth Tn mop mo lNil)) :=
  PE.imp (pe_bm0 pa slot hty (hm E) ho hbase hline) fun σ H Q ⟨L, σd, S, rp, sl, ev⟩ => ⟨L, σd, S, rp, sl, ev.step fun d S1 L1 H1 x1 r1 ev1 v dn => by
    split at ev1
    · rename_i ht
      exact ⟨tyD_ok hk r1 dn ht, L1, S1, d, [], r1, dn, .nil, ev1⟩
    · exact ev1.elim⟩

/-! ### a list of the store changed -/
theorem wr_list {Q : VK} {n : Nat} {a : Addr} {ds' : List D} {vs' : List V} {r : D} {w : V} (rp : RepS g L S H) (hn : L[n]? = some a) (dn' : Dens g L H ds' vs') (dr : Den g L H r w)
    (ev : Ev g E L H (.ok r (S.set n (.lst ds'))) (PV g Q)) : Q w (upd H a (.lst vs')) := by
  have xw : Ext g L H L (upd H a (.lst vs')) := Ext.write hn
  exact ev L _ xw (rp.write hn ⟨fun _ => by simp, fun _ _ => by simp⟩ (.lst upd_same (dn'.ext rp xw))) w (dr.ext rp xw)
def lstAt (S : Sto) : D → Option (Nat × List D)
  | .ref n => match S[n]? with
    | some (.lst xs) => some (n, xs)
    | _ => none
  | _ => none
theorem lstAt_ok (r : RepS g L S H) (dn : Den g L H d v) {n : Nat} {xs : List D} (e : lstAt S d = some (n, xs)) : ∃ a vs, v = .ref a ∧ L[n]? = some a ∧ H a = some (.lst vs) ∧ Dens g L H xs vs := by
  unfold lstAt at e
  split at e
  · cases dn with
    | ref hn =>
      split at e
      · rename_i hs
        cases e
        obtain ⟨a, ha, od⟩ := r.ob hs
        rw [hn] at ha
        cases ha
        cases od with
        | lst q ds => exact ⟨_, _, rfl, hn, q, ds⟩
      · cases e
  · cases e
def mAppend : MF := fun d ds S => match ds with
  | [y] => match lstAt S d with
    | some (n, xs) => if xs.length < sizeLine then .ok .non (S.set n (.lst (xs ++ [y]))) else .stuck
    | none => .stuck
  | _ => .stuck
theorem mx_append : MtX X g "list.append" mAppend := by
  intro E pins s σ H x xs v us Q I rx rv h
  obtain ⟨L, S, d, ds, rp, dn, dns, ev⟩ := h
  unfold mAppend at ev
  split at ev
  · rename_i y
    cases dns with
    | cons d1 d2 =>
      cases d2
      split at ev
      · rename_i n zs ez
        split at ev
        · rename_i hz
          obtain ⟨a, vs, rfl, hn, ha, dz⟩ := lstAt_ok rp dn ez
          exact mt_append pins s σ H _ _ v us Q I rx rv ⟨a, vs, _, rfl, rfl, ha, by rw [← Paired.len dz]; exact hz, wr_list rp hn (Dens.app dz (.cons d1 .nil)) (.pd .non) ev⟩
        · exact ev.elim
      · exact ev.elim
  · exact ev.elim
def mPopAt : MF := fun d ds S => match ds with
  | [.pd (.int i)] => match lstAt S d with
    | some (n, xs) => if -(2 ^ 63) ≤ i ∧ i < 2 ^ 63 then (match seqIndex? i xs.length with
      | some k => match xs[k]? with
        | some y => .ok y (S.set n (.lst (xs.eraseIdx k)))
        | none => .stuck
      | none => .stuck) else .stuck
    | none => .stuck
  | _ => .stuck
theorem Paired.eraseIdx {α β : Type} {F : α → β → Prop} : ∀ {l : List α} {l' : List β} (i : Nat), Paired F l l' → Paired F (l.eraseIdx i) (l'.eraseIdx i)
  | _, _, _, .nil => .nil
  | _, _, 0, .cons _ t => t
  | _, _, i + 1, .cons r t => .cons r (Paired.eraseIdx i t)
theorem Paired.dropLast {α β : Type} {F : α → β → Prop} : ∀ {l : List α} {l' : List β}, Paired F l l' → Paired F l.dropLast l'.dropLast
  | _, _, .nil => .nil
  | _, _, .cons _ .nil => .nil
  | _, _, .cons r (.cons r' t) => .cons r (Paired.dropLast (.cons r' t))
theorem mx_popAt : MtX X g "list.pop" mPopAt := by
  intro E pins s σ H x xs v us Q I rx rv h
  obtain ⟨L, S, d, ds, rp, dn, dns, ev⟩ := h
  unfold mPopAt at ev
  split at ev
  · rename_i i
    cases dns with
    | cons d1 d2 =>
      cases d2
      cases den_int d1
      split at ev
      · rename_i n zs ez
        split at ev
        · rename_i hi
          obtain ⟨a, vs, rfl, hn, ha, dz⟩ := lstAt_ok rp dn ez
          split at ev
          · rename_i k hk
            split at ev
            · rename_i y hy
              obtain ⟨w, hw, dw⟩ := Paired.get dz hy
              exact mt_popAt pins s σ H _ _ v us Q I rx rv ⟨a, vs, i, k, w, rfl, rfl, ha, hi.1, hi.2, by rw [← Paired.len dz]; exact hk, hw, wr_list rp hn (Paired.eraseIdx k dz) dw ev⟩
            · exact ev.elim
          · exact ev.elim
        · exact ev.elim
      · exact ev.elim
  · exact ev.elim
def mPop : MF := fun d ds S => match ds with
  | [] => match lstAt S d with
    | some (n, xs) => (match xs[xs.length - 1]? with
        | some y => .ok y (S.set n (.lst xs.dropLast))
        | none => .stuck)
    | none => .stuck
  | _ => .stuck
theorem mx_pop : MtX X g "list.pop" mPop := by
  intro E pins s σ H x xs v us Q I rx rv h
  obtain ⟨L, S, d, ds, rp, dn, dns, ev⟩ := h
  unfold mPop at ev
  split at ev
  · cases dns
    split at ev
    · rename_i n zs ez
      obtain ⟨a, vs, rfl, hn, ha, dz⟩ := lstAt_ok rp dn ez
      split at ev
      · rename_i y hy
        obtain ⟨w, hw, dw⟩ := Paired.get dz hy
        exact mt_pop pins s σ H _ _ v us Q I rx rv ⟨a, vs, w, rfl, rfl, ha, by rw [← Paired.len dz]; exact hw, wr_list rp hn (Paired.dropLast dz) dw ev⟩
      · exact ev.elim
    · exact ev.elim
  · exact ev.elim
def rExtendR : V → List V → Hp → VK → Prop := fun x vs H Q => ∃ l b xs zs, x = .ref l ∧ vs = [.ref b] ∧ H l = some (.lst xs) ∧ Rd H b (.lst zs) ∧ xs.length + zs.length ≤ sizeLine ∧ Q .non (upd H l (.lst (xs ++ zs)))
theorem mt_extendR : MtM X "list.extend" rExtendR := by
  intro pins s σ H x vs v us Q I rx rv h
  obtain ⟨l, b, xs, zs, rfl, rfl, hH, hB, hz, q⟩ := h
  cases rx
  obtain ⟨u, rfl, ru⟩ := rv.one
  cases ru
  obtain ⟨z, its, n, r, hl, e⟩ := I.lstM hH
  obtain ⟨z2, its2, n2, r2, hl2, e2⟩ := I.lstR hB
  have hsz : its.toArray.size + its2.toArray.size ≤ sizeLine := by rw [List.size_toArray, List.size_toArray]; omega
  have hlong : ¬ (!its.toArray.isEmpty && Builtin.List.listTooLong (its.toArray.size + its2.toArray.size)) = true := by
    rw [notLongL hsz, Bool.and_false]
    exact Bool.false_ne_true
  refine call_meets F.slot_list_extend ⟨_, e, rfl⟩ F.entry_list_extend (F.args_list_extend_2 _ _)
    (AutoSeq1.list_extend_list_list_0 l its.toArray n b its2.toArray n2 hlong (by rw [List.size_toArray]; omega) (by omega)) ⟨e, e2, ?_⟩
  refine ⟨.non, _, I.lset (its' := its ++ its2) hH e (by simp) (r.append r2) ?_, rfl, q⟩
  rw [List.length_append]
  omega
def mExtend : MF := fun d ds S => match ds with
  | [y] => match lstAt S d, asL S y with
    | some (n, xs), some zs => if xs.length + zs.length ≤ sizeLine then .ok .non (S.set n (.lst (xs ++ zs))) else .stuck
    | _, _ => .stuck
  | _ => .stuck
theorem mx_extend : MtX X g "list.extend" mExtend := by
  intro E pins s σ H x xs v us Q I rx rv h
  obtain ⟨L, S, d, ds, rp, dn, dns, ev⟩ := h
  unfold mExtend at ev
  split at ev
  · rename_i y
    cases dns with
    | cons d1 d2 =>
      cases d2
      split at ev
      · rename_i n ys zs ez ew
        split at ev
        · rename_i hz
          obtain ⟨a, vs, rfl, hn, ha, dz⟩ := lstAt_ok rp dn ez
          obtain ⟨b, ws, rfl, hb, dw⟩ := asL_ok rp d1 ew
          exact mt_extendR pins s σ H _ _ v us Q I rx rv ⟨a, b, vs, ws, rfl, rfl, ha, hb, by rw [← Paired.len dz, ← Paired.len dw]; exact hz, wr_list rp hn (Dens.app dz dw) (.pd .non) ev⟩
        · exact ev.elim
      · exact ev.elim
  · exact ev.elim
end
end DL
end
section
namespace DL
open PySem PySem.Spec PyProof.Rows L2
open Classical

/-! ### dicts, keys ints or texts -/
def keyD : D → Option Key
  | .pd (.int i) => some (.inl i)
  | .pd (.str x) => some (.inr x)
  | _ => none
def valD (kvs : List (Key × D)) (k : Key) : Option D := (kvs.find? fun kv => decide (kv.1 = k)).map (·.2)
def putD (kvs : List (Key × D)) (k : Key) (v : D) : List (Key × D) := if (kvs.any fun kv => decide (kv.1 = k)) = true then kvs.map (fun kv => if kv.1 = k then (kv.1, v) else kv) else kvs ++ [(k, v)]
def dctAt (S : Sto) : D → Option (Nat × List (Key × D))
  | .ref n => match S[n]? with
    | some (.dct xs) => some (n, xs)
    | _ => none
  | _ => none
section
variable {g g' : G} {E : WX} {L L' L0 : List Addr} {H H' H0 : Hp} {S S' : Sto} {σd : Sl} {σ : L2.St} {v : V} {d : D}
abbrev KvDen (g : G) (L : List Addr) (H : Hp) : List (Key × D) → List (Key × V) → Prop := Paired (fun p q => p.1 = q.1 ∧ Den g L H p.2 q.2)
theorem keyD_ok (dn : Den g L H d v) {k : Key} (e : keyD d = some k) : v = kV k := by
  unfold keyD at e
  split at e
  · cases e; exact den_int dn
  · cases e; exact den_str dn
  · cases e
theorem valD_ok {k : Key} : ∀ {kvs : List (Key × D)} {ws : List (Key × V)}, KvDen g L H kvs ws → (∀ d, valD kvs k = some d → ∃ v, valV ws k = some v ∧ Den g L H d v) ∧ (valD kvs k = none → valV ws k = none)
  | _, _, .nil => ⟨fun d e => (by cases e), fun _ => rfl⟩
  | (a, x) :: r, (b, y) :: r', .cons h t => by
    obtain ⟨e, dn⟩ := h
    have e : a = b := e
    subst e
    by_cases q : a = k
    · refine ⟨fun d e => ?_, fun e => ?_⟩
      · have : valD ((a, x) :: r) k = some x := by simp [valD, List.find?_cons, q]
        rw [this] at e
        cases e
        exact ⟨y, valV_pos q, dn⟩
      · have : valD ((a, x) :: r) k = some x := by simp [valD, List.find?_cons, q]
        rw [this] at e
        cases e
    · have e1 : valD ((a, x) :: r) k = valD r k := by simp [valD, List.find?_cons, q]
      rw [e1, valV_neg q]
      exact valD_ok t
theorem kv_any {k : Key} : ∀ {kvs : List (Key × D)} {ws : List (Key × V)}, KvDen g L H kvs ws → (kvs.any fun kv => decide (kv.1 = k)) = (ws.any fun kv => decide (kv.1 = k))
  | _, _, .nil => rfl
  | (a, x) :: r, (b, y) :: r', .cons h t => by
    have e : a = b := h.1
    subst e
    rw [List.any_cons, List.any_cons, kv_any t]
theorem kv_map {k : Key} {x : D} {y : V} (dn : Den g L H x y) : ∀ {kvs : List (Key × D)} {ws : List (Key × V)}, KvDen g L H kvs ws → KvDen g L H (kvs.map fun kv => if kv.1 = k then (kv.1, x) else kv) (ws.map fun kv => if kv.1 = k then (kv.1, y) else kv)
  | _, _, .nil => .nil
  | (a, x') :: r, (b, y') :: r', .cons h t => by
    obtain ⟨e, dn'⟩ := h
    have e : a = b := e
    subst e
    refine .cons ?_ (kv_map dn t)
    by_cases q : a = k
    · simp only [q, if_true]; exact ⟨trivial, dn⟩
    · simp only [q, if_false]; exact ⟨trivial, dn'⟩
theorem putD_ok {k : Key} {x : D} {y : V} (dn : Den g L H x y) {kvs : List (Key × D)} {ws : List (Key × V)} (h : KvDen g L H kvs ws) : KvDen g L H (putD kvs k x) (putK ws k y) := by
  unfold putD putK
  rw [kv_any h]
  split
  · exact kv_map dn h
  · exact Paired.app h (.cons ⟨rfl, dn⟩ .nil)
theorem KvDen.ext (r : RepS g L S H) (x : Ext g L H L' H') {kvs : List (Key × D)} {ws : List (Key × V)} (h : KvDen g L H kvs ws) : KvDen g L' H' kvs ws := Paired.imp h fun _ _ q => ⟨q.1, q.2.ext r x⟩
theorem dctAt_ok (r : RepS g L S H) (dn : Den g L H d v) {n : Nat} {xs : List (Key × D)} (e : dctAt S d = some (n, xs)) : ∃ a vs, v = .ref a ∧ L[n]? = some a ∧ H a = some (.dK vs) ∧ KvDen g L H xs vs := by
  unfold dctAt at e
  split at e
  · cases dn with
    | ref hn =>
      split at e
      · rename_i hs
        cases e
        obtain ⟨a, ha, od⟩ := r.ob hs
        rw [hn] at ha
        cases ha
        cases od with
        | dct q ds => exact ⟨_, _, rfl, hn, q, ds⟩
      · cases e
  · cases e
variable {X : Cx} {x : Str} {p p2 pos pos' : Pos} {o i e a b value : Expr} {es : List Expr} {ml : DM (List D)} {ma mb mo mi mv : DM D}
/-- d[k] -/
def opDIx : D → D → Sto → Out D := fun x y S => match dctAt S x, keyD y with
  | some (_, kvs), some k => match valD kvs k with
    | some d => .ok d S
    | none => .stuck
  | _, _ => .stuck
theorem px_dix (hu : X.A.units + 1 < cLine) (ho : PE X o (T g E mo)) (hi : PE X i (T g E mi)) (hs : NoSl i := by intro _ _; rfl) : PE X (.Subscript o i pos) (T g E (eOp opDIx mo mi)) :=
  PE.imp (pe_dget hu ho hi hs) fun σ H Q ⟨L, σd, S, rp, sl, ev⟩ => ⟨L, σd, S, rp, sl, ev.step fun dx S1 L1 H1 x1 r1 ev1 x n1 => ⟨L1, σd, S1, r1, sl.ext rp x1, ev1.step fun dy S2 L2 H2 x2 r2 ev2 y n2 => by
    unfold opDIx at ev2
    split at ev2
    · rename_i n kvs k e1 e2
      split at ev2
      · rename_i d ed
        obtain ⟨a, ws, rfl, _, ha, kd⟩ := dctAt_ok r2 (n1.ext r1 x2) e1
        obtain ⟨w, ew, dw⟩ := (valD_ok kd).1 d ed
        exact ⟨a, w, rfl, .inl ⟨ws, k, .inl ha, keyD_ok n2 e2, ew.symm⟩, fin_val r2 ev2 dw⟩
      · exact ev2.elim
    · exact ev2.elim⟩⟩
/-- k in d -/
def opDIn (ne : Bool) : D → D → Sto → Out D := fun y x S => match dctAt S x, keyD y with
  | some (_, kvs), some k => .ok (.bl (ne != (valD kvs k).isSome)) S
  | _, _ => .stuck
theorem din_some {kvs : List (Key × D)} {ws : List (Key × V)} {k : Key} (kd : KvDen g L H kvs ws) : (valV ws k).isSome = (valD kvs k).isSome := by
  cases e : valD kvs k with
  | none => rw [(valD_ok kd).2 e]; rfl
  | some d => obtain ⟨w, ew, _⟩ := (valD_ok kd).1 d e; rw [ew]; rfl
theorem pc_dinX (hu : X.A.units + 1 < cLine) (hi : PE X i (T g E mi)) (ho : PE X o (T g E mo)) : PC X .In i o (T g E (eOp (opDIn false) mi mo)) :=
  ⟨fun pins s σ H Q I ⟨L, σd, S, rp, sl, ev⟩ => (pc_din hu hi ho).run pins s σ H Q I ⟨L, σd, S, rp, sl, ev.step fun dx S1 L1 H1 x1 r1 ev1 x n1 => ⟨L1, σd, S1, r1, sl.ext rp x1, ev1.step fun dy S2 L2 H2 x2 r2 ev2 y n2 => by
    unfold opDIn at ev2
    split at ev2
    · rename_i n kvs k e1 e2
      obtain ⟨a, ws, rfl, _, ha, kd⟩ := dctAt_ok r2 n2 e1
      refine ⟨a, _, rfl, .inl ⟨ws, k, .inl ha, keyD_ok (n1.ext r1 x2) e2, rfl⟩, ?_⟩
      rw [din_some kd]
      exact fin_val r2 ev2 (by cases (valD kvs k).isSome <;> exact .pd (.bl _))
    · exact ev2.elim⟩⟩⟩
theorem pc_dnotinX (hu : X.A.units + 1 < cLine) (hi : PE X i (T g E mi)) (ho : PE X o (T g E mo)) : PC X .NotIn i o (T g E (eOp (opDIn true) mi mo)) :=
  ⟨fun pins s σ H Q I ⟨L, σd, S, rp, sl, ev⟩ => (pc_dnotin hu hi ho).run pins s σ H Q I ⟨L, σd, S, rp, sl, ev.step fun dx S1 L1 H1 x1 r1 ev1 x n1 => ⟨L1, σd, S1, r1, sl.ext rp x1, ev1.step fun dy S2 L2 H2 x2 r2 ev2 y n2 => by
    unfold opDIn at ev2
    split at ev2
    · rename_i n kvs k e1 e2
      obtain ⟨a, ws, rfl, _, ha, kd⟩ := dctAt_ok r2 n2 e1
      refine ⟨a, _, rfl, .inl ⟨ws, k, .inl ha, keyD_ok (n1.ext r1 x2) e2, rfl⟩, ?_⟩
      rw [din_some kd]
      exact fin_val r2 ev2 (by cases (valD kvs k).isSome <;> exact .pd (.bl _))
    · exact ev2.elim⟩⟩⟩
/-- d[k] = e -/
def sDPutD (o i m : DM D) : DM Fl := fun σ S => (m σ S).bind fun d S1 => (o σ S1).bind fun x S2 => (i σ S2).bind fun y S3 => match dctAt S3 x, keyD y with
  | some (n, kvs), some k => if kvs.length < sizeLine then .ok (.next σ) (S3.set n (.dct (putD kvs k d))) else .stuck
  | _, _ => .stuck
theorem qs_dput (hu : X.A.units + 1 < cLine) (ho : PE X o (T g E mo)) (hi : PE X i (T g E mi)) (hv : PE X value (T g E mv)) (hs : swapsWith value (some (.Subscript o i pos')) pos.line X.env = pure false := by rfl) :
    PS X (.Assign [.Subscript o i pos'] value pos) (TSt g E (sDPutD mo mi mv)) :=
  PS.imp (ps_dput hu ho hi hv hs) fun D σ H ⟨L, σd, S, rp, sl, ev⟩ => ⟨L, σd, S, rp, sl, (Ev.bind ev).imp fun d S1 L1 H1 x1 r1 ev1 v dn =>
    ⟨L1, σd, S1, r1, sl.ext rp x1, (Ev.bind ev1).imp fun o S2 L2 H2 x2 r2 ev2 ov no => ⟨L2, σd, S2, r2, (sl.ext rp x1).ext r1 x2, (Ev.bind ev2).imp fun i S3 L3 H3 x3 r3 ev3 iv ni => by
      have sl3 := ((sl.ext rp x1).ext r1 x2).ext r2 x3
      have no3 := no.ext r2 x3
      have dn3 := (dn.ext r1 x2).ext r2 x3
      split at ev3
      · rename_i n kvs k e1 e2
        split at ev3
        · rename_i hz
          obtain ⟨a, ws, rfl, hn, ha, kd⟩ := dctAt_ok r3 no3 e1
          have xw : Ext g L3 H3 L3 (upd H3 a (.dK (putK ws k v))) := Ext.write hn
          refine ⟨a, _, rfl, .inl ⟨ws, k, ha, keyD_ok ni e2, by rw [← Paired.len kd]; exact hz, rfl⟩, ?_⟩
          exact ev3 L3 _ xw (r3.write hn ⟨fun _ => by simp, fun _ _ => by simp⟩ (.dct upd_same (putD_ok (dn3.ext r3 xw) (kd.ext r3 xw)))) σ (sl3.ext r3 xw)
        · exact ev3.elim
      · exact ev3.elim⟩⟩⟩
/-- d.get(k) -/
def eDGet1 (mo mi : DM D) : DM D := mBind mo fun x => fun σ S => if (dctAt S x).isSome = true then mBind mi (fun y => fun _ S2 => match dctAt S2 x, keyD y with
  | some (_, kvs), some k => .ok ((valD kvs k).getD .non) S2
  | _, _ => .stuck) σ S else .stuck
theorem px_dget1 {apos cpos : Pos} (hu : X.A.units + 1 < cLine) (ho : PE X o (T g E mo)) (he : PE X e (T g E mi)) (m : M1 X o "get" apos e cpos) : PE X (.Call (.Attribute o "get" apos) [e] [] cpos) (T g E (eDGet1 mo mi)) :=
  PE.imp (pe_dget1 hu ho he m) fun σ H Q ⟨L, σd, S, rp, sl, ev⟩ => ⟨L, σd, S, rp, sl, ev.step fun dx S1 L1 H1 x1 r1 ev1 x n1 => by
    split at ev1
    · rename_i hs
      cases e1 : dctAt S1 dx with
      | none => rw [e1] at hs; cases hs
      | some q =>
        obtain ⟨n, kvs⟩ := q
        obtain ⟨a, ws, rfl, hn, ha, kd⟩ := dctAt_ok r1 n1 e1
        refine ⟨a, rfl, .inl ⟨ws, .inl ha⟩, L1, σd, S1, r1, sl.ext rp x1, ev1.step fun dy S2 L2 H2 x2 r2 ev2 y n2 => ?_⟩
        split at ev2
        · rename_i n' kvs' k e2 e3
          obtain ⟨a', ws', ea, _, ha', kd'⟩ := dctAt_ok r2 (n1.ext r1 x2) e2
          cases ea
          refine ⟨_, .inl ⟨ws', k, .inl ha', keyD_ok n2 e3, rfl⟩, ?_⟩
          cases ev : valD kvs' k with
          | none => rw [ev] at ev2; rw [(valD_ok kd').2 ev]; exact fin_val r2 ev2 (.pd .non)
          | some d =>
            rw [ev] at ev2
            obtain ⟨w, ew, dw⟩ := (valD_ok kd').1 d ev
            rw [ew]
            exact fin_val r2 ev2 dw
        · exact ev2.elim
    · exact ev1.elim⟩

/-! ### dict comprehensions -/
noncomputable def dcGo (gu : Gu) (t : TgD) (tt : DM Bool) (tk tv : DM D) : List D → List (Key × D) → Sl → Sto → Out (List (Key × D))
  | [], acc, _, S => if gu.ok S then .ok acc S else .stuck
  | d :: r, acc, σ, S => if gu.ok S then (match t d σ with
    | some σ1 => (tt σ1 S).bindN fun b S1 => if b = true then (tk σ1 S1).bindN fun y S2 => (tv σ1 S2).bindN fun z S3 => (match keyD y with
        | some k => if acc.length < sizeLine then dcGo gu t tt tk tv r (putD acc k z) σ S3 else .stuck
        | none => .stuck) else dcGo gu t tt tk tv r acc σ S1
    | none => .stuck) else .stuck
noncomputable def dcAll (vs : List Nat) (w : DM Wk) (t : TgD) (tt : DM Bool) (tk tv : DM D) : DM (List (Key × D)) := fun σ S => (w σ S).bind fun wk S' => match dcGo wk.gu t tt tk tv wk.items [] (clr vs σ) S' with
  | .ok kvs S2 => .ok kvs S2
  | _ => .stuck
def mkDct : List (Key × D) → DM D := fun kvs _ S => .ok (.ref S.length) (S ++ [.dct kvs])
noncomputable def eDc (vs : List Nat) (w : DM Wk) (t : TgD) (tt : DM Bool) (tk tv : DM D) : DM D := mBind (dcAll vs w t tt tk tv) mkDct
variable {tg iter kx vx : Expr} {ifs : List Expr} {scope : Scope} {own : List (Str × Nat)} {mw : DM Wk} {gt : TG} {t : TgD} {mt : DM Bool} {mk mx : DM D} {tt : TT} {tk tv : TE}
theorem KvDen.updO {A : Addr} {o' : HO} (r : RepS (g.blk A) L S H) {kvs : List (Key × D)} {ws : List (Key × V)} (h : KvDen (g.blk A) L H kvs ws) : KvDen (g.blk A) L (upd H A o') kvs ws := Paired.imp h fun _ _ q => ⟨q.1, Den.updO r q.2⟩
theorem dc_reads {N : List Str} (hg : TgR g.K N (own.map (·.2)) gt t)
    (htt : ∀ (g' : G), g'.K = g.K → g'.mg = g.mg → ∀ σ H Q, TB g' EN mt σ H Q → tt σ H Q) (htk : ∀ (g' : G), g'.K = g.K → g'.mg = g.mg → ∀ σ H Q, T g' EN mk σ H Q → tk σ H Q) (htv : ∀ (g' : G), g'.K = g.K → g'.mg = g.mg → ∀ σ H Q, T g' EN mx σ H Q → tv σ H Q)
    {wi : TI} (hwi : ∀ σ H R, TW g E mw σ H R → wi σ H R) {Q : VK}
    (h : T g E (eDc (own.map (·.2)) mw t mt mk mx) σ H Q) (hNl : σ.length = N.length) : tDc wi gt tt tk tv (own.map (·.2)) σ H Q := by
  have haw := h.asW
  obtain ⟨L, σd, S, rp, sl, ev⟩ := h
  generalize hvs : own.map (·.2) = vs at *
  refine hwi σ H _ ⟨L, σd, S, rp, sl, ?_⟩
  have ev' : Ev g E L H ((mw σd S).bind fun wk S' => (match dcGo wk.gu t mt mk mx wk.items [] (clr vs σd) S' with
      | .ok kvs S2 => mkDct kvs σd S2
      | _ => .stuck)) (PV g Q) := by
    have e : ((mw σd S).bind fun wk S' => (match dcGo wk.gu t mt mk mx wk.items [] (clr vs σd) S' with
      | .ok kvs S2 => mkDct kvs σd S2
      | _ => .stuck)) = eDc vs mw t mt mk mx σd S := by
      unfold eDc mBind dcAll
      cases mw σd S with
      | ok wk S' =>
        simp only [Out.bind_ok]
        cases dcGo wk.gu t mt mk mx wk.items [] (clr vs σd) S' <;> rfl
      | exc e σ2 S2 => rfl
      | stuck => rfl
    rw [e]; exact ev
  refine (Ev.bind ev').imp fun wk S1 L1 H1 x1 r1 ev1 J hJ A hA => ?_
  cases elc : dcGo wk.gu t mt mk mx wk.items [] (clr vs σd) S1 with
  | exc e σ2 S2 => rw [elc] at ev1; exact ev1.elim
  | stuck => rw [elc] at ev1; exact ev1.elim
  | ok dsF SF =>
    rw [elc] at ev1
    have evF : Ev g E L1 H1 (mkDct dsF σd SF) (PV g Q) := ev1
    have hAL1 : A ∉ L1 := fun h => r1.free hA (.inr h)
    have sl1 := sl.ext rp x1
    have gx := blk_gx (g := g) hA
    refine ⟨fun i m H => ∃ L S ds ws, m = wk.items.length - i ∧ i ≤ wk.items.length ∧ Ext g L1 H1 L H ∧ A ∉ L ∧ RepS (g.blk A) L S H ∧ H A = some (.dK ws) ∧ KvDen (g.blk A) L H ds ws ∧ dcGo wk.gu t mt mk mx (wk.items.drop i) ds (clr vs σd) S = .ok dsF SF,
      ⟨_, L1, S1, [], [], rfl, Nat.zero_le _, Ext.new1 hA, hAL1, blk_inO (nt_dK _) r1 hA, upd_same, .nil, by simpa using elc⟩, ?_⟩
    rintro i m H2 ⟨L2, S2, ds, ws, rfl, hi, x2, hAL, r2, eA, dn, el⟩
    cases hd : wk.items.drop i with
    | nil =>
      rw [hd] at el
      unfold dcGo at el
      split at el
      · rename_i gu
        cases el
        have hi2 : i = wk.items.length := by
          have := congrArg List.length hd
          simp at this
          omega
        subst hi2
        refine .inl ⟨(hJ _ L2 _ H2 gx x2 r2 gu).2, ?_⟩
        unfold mkDct at evF
        have hL : SF.length = L2.length := Paired.len r2.obs
        refine evF (L2 ++ [A]) H2 ⟨x2.pre.trans (List.prefix_append _ _), fun a h na => ?_, x2.keep, x2.there⟩ (blk_adoptO r2 haw (.dct eA dn) hAL (fun w => r1.free hA (.inl w)) (r1h0 r1 hA)) (.ref A) (.ref (by rw [hL]; simp))
        rcases List.mem_append.mp h with h | h
        · exact x2.new a h na
        · have : a = A := by simpa using h
          rw [this]; exact hA
      · cases el
    | cons d r =>
      rw [hd] at el
      unfold dcGo at el
      split at el
      · rename_i gu
        have hi2 : i < wk.items.length := by
          have := congrArg List.length hd
          simp at this
          omega
        have ed : wk.items[i]? = some d := by
          have := congrArg (fun l => l[0]?) hd
          simpa [List.getElem?_drop] using this
        have hr : wk.items.drop (i + 1) = r := by
          have := congrArg (List.drop 1) hd
          simpa [List.drop_drop, Nat.add_comm] using this
        obtain ⟨go, yl⟩ := (hJ _ L2 _ H2 gx x2 r2 gu).1 i d ed
        split at el
        · rename_i σ1 e1
          obtain ⟨k, S3, em, el⟩ := bindN_ok el
          refine .inr ⟨go, fun H => ∃ L S ds ws, Ext g L1 H1 L H ∧ A ∉ L ∧ RepS (g.blk A) L S H ∧ H A = some (.dK ws) ∧ KvDen (g.blk A) L H ds ws ∧ dcGo wk.gu t mt mk mx (wk.items.drop (i + 1)) ds (clr vs σd) S = .ok dsF SF,
            fun H' ⟨L, S, ds, ws, h1, h2, h3, h4, h5, h6⟩ => ⟨wk.items.length - (i + 1), by omega, L, S, ds, ws, rfl, hi2, h1, h2, h3, h4, h5, h6⟩, fun x H3 hx => ?_⟩
          obtain ⟨x3, r3, dx⟩ := yl x H3 hx
          have eA3 := x3.keep A _ eA hAL
          have slw : SlDen (g.blk A) L2 H3 (clr vs σd) (wipe σ vs) := fun j e ej => by
            obtain ⟨e1, hj⟩ := clr_some ej
            obtain ⟨w, ew, dw⟩ := sl1 j e e1
            exact ⟨w, by rw [wipe_out hj]; exact ew, dw.gx r1 gx (x2.trans x3)⟩
          refine hg (g.blk A) L2 S2 H3 x d _ σ1 _ _ rfl r3 slw (by rw [wipe_length]; exact hNl) dx e1 fun σ' sl' hl' out => ?_
          refine ⟨wipe_eq (hl'.trans (wipe_length _ _)) fun j hj => by rw [out j hj, wipe_out hj], ?_⟩
          refine htt (g.blk A) rfl rfl σ' H3 _ ⟨L2, σ1, S2, r3, sl', ?_⟩
          rw [em]
          intro L4 H4 x4 r4
          have hAL4 : A ∉ L4 := fun h => by
            have := x4.new A h hAL
            rw [eA3] at this; cases this
          have eA4 := x4.keep A _ eA3 hAL
          have dn4 : KvDen (g.blk A) L4 H4 ds ws := KvDen.ext r3 x4 (KvDen.ext r2 x3.any dn)
          show if k = true then _ else _
          split at el
          · rename_i hk
            obtain ⟨y, S5, ee, el⟩ := bindN_ok el
            obtain ⟨z, S6, ee2, el⟩ := bindN_ok el
            split at el
            · rename_i ky eky
              split at el
              · rename_i hz
                rw [if_pos hk]
                refine htk (g.blk A) rfl rfl σ' H4 _ ⟨L4, σ1, S3, r4, sl'.ext r3 x4, ?_⟩
                rw [ee]
                intro L5 H5 x5 r5 w dw
                have hAL5 : A ∉ L5 := fun h => by
                  have := x5.new A h hAL4
                  rw [eA4] at this; cases this
                have eA5 := x5.keep A _ eA4 hAL4
                have dn5 : KvDen (g.blk A) L5 H5 ds ws := KvDen.ext r4 x5 dn4
                refine htv (g.blk A) rfl rfl σ' H5 _ ⟨L5, σ1, S5, r5, (sl'.ext r3 x4).ext r4 x5, ?_⟩
                rw [ee2]
                intro L6 H6 x6 r6 w6 dw6
                have hAL6 : A ∉ L6 := fun h => by
                  have := x6.new A h hAL5
                  rw [eA5] at this; cases this
                have eA6 := x6.keep A _ eA5 hAL5
                have dn6 : KvDen (g.blk A) L6 H6 ds ws := KvDen.ext r5 x6 dn5
                refine ⟨ws, ky, keyD_ok dw eky, eA6, by rw [← Paired.len dn6]; exact hz, L6, S6, putD ds ky z, putK ws ky w6, ?_, hAL6, r6.updO (nt_dK _) hAL6 (r1h0 r1 hA), upd_same, KvDen.updO r6 (putD_ok dw6 dn6), by rw [hr]; exact el⟩
                exact Ext.upd1 hAL6 eA6 ((((x2.trans x3).trans x4.any).trans x5.any).trans x6.any) hA
              · cases el
            · cases el
          · rename_i hk
            rw [if_neg hk]
            exact ⟨L4, S3, ds, ws, (x2.trans x3).trans x4.any, hAL4, r4, eA4, dn4, by rw [hr]; exact el⟩
        · cases el
      · cases el
/-- {k: v for t in it if ..} -/
theorem px_dc (hK : X.K = g.K) (hmg : X.mg = g.mg) (hc : X.calm = true) (hN : X.N.Nodup) (hi : PI X tg iter (TW g E mw)) (ok : BlkOk X.N X.env.scope scope own)
    (hg : ∀ (s : Shared) (H : Hp) (C : Addr) (cl : List (Str × Addr)) (fp : List Addr), PG (X.blk s H scope (compEnvC scope cl C X.env) fp) tg gt) (tr : TgR X.K X.N (own.map (·.2)) gt t)
    (ht : ∀ (s : Shared) (H : Hp) (C : Addr) (cl : List (Str × Addr)) (fp : List Addr) (g' : G), X.K = g'.K → X.mg = g'.mg → PTs (X.blk s H scope (compEnvC scope cl C X.env) fp) ifs (TB g' EN mt))
    (hk : ∀ (s : Shared) (H : Hp) (C : Addr) (cl : List (Str × Addr)) (fp : List Addr) (g' : G), X.K = g'.K → X.mg = g'.mg → PE (X.blk s H scope (compEnvC scope cl C X.env) fp) kx (T g' EN mk))
    (he : ∀ (s : Shared) (H : Hp) (C : Addr) (cl : List (Str × Addr)) (fp : List Addr) (g' : G), X.K = g'.K → X.mg = g'.mg → PE (X.blk s H scope (compEnvC scope cl C X.env) fp) vx (T g' EN mx)) (hs : ∀ x, foldedSetIterable iter X.env x = pure x := by intro _; rfl) :
    PE X (.DictComp kx vx [⟨tg, iter, ifs, 0⟩] scope pos) (T g E (eDc (own.map (·.2)) mw t mt mk mx)) :=
  PE.imp (PE.len (pe_dc hc hN hi ok hg (fun s H C cl fp => PTs.ex (K := g.K) (mg := g.mg) fun g' e1 e2 => ht s H C cl fp g' (hK.trans e1.symm) (hmg.trans e2.symm)) (fun s H C cl fp => PE.ex (K := g.K) (mg := g.mg) fun g' e1 e2 => hk s H C cl fp g' (hK.trans e1.symm) (hmg.trans e2.symm))
    (fun s H C cl fp => PE.ex (K := g.K) (mg := g.mg) fun g' e1 e2 => he s H C cl fp g' (hK.trans e1.symm) (hmg.trans e2.symm)) hs)) fun σ H Q h hl =>
    dc_reads (N := X.N) (by rw [← hK]; exact tr) (fun g' e1 e2 σ H Q q => ⟨g', e1, e2, q⟩) (fun g' e1 e2 σ H Q q => ⟨g', e1, e2, q⟩) (fun g' e1 e2 σ H Q q => ⟨g', e1, e2, q⟩) (fun _ _ _ q => q) h hl
end
end DL
end
section
namespace DL
open PySem PySem.Spec PyProof.Rows L2
/-! ### tuple * int, any int -/
theorem tuple_mul_same (l : Addr) (items : Array Value) (n : Nat) (x : Int) (u : Tok) (c0 : (decide (x < -(2 ^ 63)) || decide (x ≥ 2 ^ 63)) = false) (c1 : (items.isEmpty || x == 1) = true) :
    Meets (Builtin.«tuple.__mul__» ⟨[.ref l, .int x u], []⟩) (fun _ R s => (∃ o, s.heap.get? l = some o ∧ o.cls = .type "tuple" ∧ o.data = .seq items n) ∧
      R (.ok (.ret (Value.ref l))) s) :=
  .of_wp fun prog w A R s h => by
    obtain ⟨hp, g, d, tk, os⟩ := s
    obtain ⟨⟨⟨cls, dd, data, sl⟩, hl, hc, hd⟩, h⟩ := h
    simp only at hc hd
    subst hc hd
    have f1 := AutoSeq1.idx_int
    wp_walk using wpAny_loadPart' hl
    repeat (first
      | (refine wpAny_ite_false (decide_eq_false (by rw [c0]; exact Bool.false_ne_true)) ?_; wp_walk using wpAny_loadPart' hl)
      | (refine wpAny_ite_true (decide_eq_true (by rw [c1])) ?_; wp_walk using wpAny_loadPart' hl))
    exact ⟨_, rfl, h⟩
theorem tuple_mul_none (l : Addr) (items : Array Value) (n : Nat) (x : Int) (u : Tok) (c0 : (decide (x < -(2 ^ 63)) || decide (x ≥ 2 ^ 63)) = false) (c1 : (items.isEmpty || x == 1) = false) (c2 : (decide (x ≤ 0) || items.isEmpty) = true) :
    Meets (Builtin.«tuple.__mul__» ⟨[.ref l, .int x u], []⟩) (fun _ R s => (∃ o, s.heap.get? l = some o ∧ o.cls = .type "tuple" ∧ o.data = .seq items n) ∧
      R (.ok (.ret (Value.ref s.heap.objs.size))) { s with heap := s.heap.push { cls := Value.type "tuple", data := Data.seq #[] } }) :=
  .of_wp fun prog w A R s h => by
    obtain ⟨hp, g, d, tk, os⟩ := s
    obtain ⟨⟨⟨cls, dd, data, sl⟩, hl, hc, hd⟩, h⟩ := h
    simp only at hc hd
    subst hc hd
    have f1 := AutoSeq1.idx_int
    wp_walk using wpAny_loadPart' hl
    repeat (first
      | (refine wpAny_ite_false (decide_eq_false (by rw [c0]; exact Bool.false_ne_true)) ?_; wp_walk using wpAny_loadPart' hl)
      | (refine wpAny_ite_false (decide_eq_false (by rw [c1]; exact Bool.false_ne_true)) ?_; wp_walk using wpAny_loadPart' hl)
      | (refine wpAny_ite_true (decide_eq_true (by rw [c2])) ?_; wp_walk using wpAny_loadPart' hl))
    exact ⟨_, rfl, h⟩
section
variable {X : Cx}
def rRepT0 (K : PySem.W.Frag) : R2 := fun x y H Q => ∃ l k xs, x = .ref l ∧ y = .int k ∧ SqT K H l xs ∧ -(2 ^ 63) ≤ k ∧ k < 2 ^ 63 ∧ (((xs = [] ∨ k = 1) ∧ Q x H) ∨ (xs ≠ [] ∧ k ≤ 0 ∧ ∀ p, H p = none → Q (.ref p) (upd H p (.tup []))))
theorem op_repT0 : OpR X (binaryOp .Mult) (rRepT0 X.K) := by
  intro pins s σ H x y v u Q I rx ry h
  obtain ⟨l, k, xs, rfl, rfl, hT, h1, h2, q⟩ := h
  cases rx
  obtain ⟨t, rfl⟩ := ry
  obtain ⟨its, r, ⟨⟨cls, dd, data, sl⟩, ho, hc, n, hd⟩, hs⟩ := I.tuple hT
  simp only at hc hd
  subst hc hd
  have hle : its.length = xs.length := r.length.symm
  have c0 : (decide (k < -(2 ^ 63)) || decide (k ≥ 2 ^ 63)) = false := by
    rw [decide_eq_false (by omega), decide_eq_false (by omega)] <;> rfl
  rcases q with ⟨hc, q⟩ | ⟨hne, hk, q⟩
  · have c1 : (its.toArray.isEmpty || k == 1) = true := by
      rcases hc with rfl | rfl
      · cases r; rfl
      · simp
    exact wpAny_binaryOp_repeat_ref (T := "tuple") (U := "int") (by decide) ⟨_, ho, rfl⟩ (fun s' => typeIs_int s' k t) noFill_tuple_mul F.fills_int_mul F.slot_int_rmul repeat_tuple F.slot_int_index.lookup
      (call_meets F.slot_int_rmul (typeIs_int s k t) F.entry_int_rmul (F.args_int_rmul_2 _ _) (int_rmul_tuple k t l its.toArray n dd sl)
        ⟨ho, rfl, ⟨_, ho, rfl⟩, call_meets F.slot_tuple_mul ⟨_, ho, rfl⟩ F.entry_tuple_mul (F.args_tuple_mul_2 _ _) (tuple_mul_same l its.toArray n k t c0 c1) ⟨⟨_, ho, rfl, rfl⟩, .ref l, H, I, rfl, q⟩⟩)
  · have hi : its.toArray.isEmpty = false := by
      cases its with
      | nil => exact absurd (List.eq_nil_of_length_eq_zero hle.symm) hne
      | cons a b => rfl
    have c1 : (its.toArray.isEmpty || k == 1) = false := by
      rw [hi, Bool.false_or]
      exact beq_eq_false_iff_ne.mpr (by omega)
    have c2 : (decide (k ≤ 0) || its.toArray.isEmpty) = true := by
      rw [decide_eq_true hk]; rfl
    exact wpAny_binaryOp_repeat_ref (T := "tuple") (U := "int") (by decide) ⟨_, ho, rfl⟩ (fun s' => typeIs_int s' k t) noFill_tuple_mul F.fills_int_mul F.slot_int_rmul repeat_tuple F.slot_int_index.lookup
      (call_meets F.slot_int_rmul (typeIs_int s k t) F.entry_int_rmul (F.args_int_rmul_2 _ _) (int_rmul_tuple k t l its.toArray n dd sl)
        ⟨ho, rfl, ⟨_, ho, rfl⟩, call_meets F.slot_tuple_mul ⟨_, ho, rfl⟩ F.entry_tuple_mul (F.args_tuple_mul_2 _ _) (tuple_mul_none l its.toArray n k t c0 c1 c2) ⟨⟨_, ho, rfl, rfl⟩,
          .ref s.heap.objs.size, _, I.laid (t' := s.toks) (o := .tup []) (fun b ob q => Heap.get?_push_of_some _ q) (Nat.le_refl _) ⟨Nat.zero_le _, [], .nil, IsTup.new _ _⟩, rfl, q _ (I.hok.fresh (Nat.le_refl _))⟩⟩)
variable {g : G}
def opMul2 : D → D → Sto → Out D := fun x y S => match x, y with
  | .pd (.tuple xs), .pd (.int k) => if -(2 ^ 63) ≤ k ∧ k < 2 ^ 63 then (if xs = [] ∨ k = 1 then .ok (.tup xs) S else if k ≤ 0 then .ok (.tup []) S else opMul (.tup xs) (.int k) S) else .stuck
  | x, y => opMul x y S
theorem ox_mul2 (hk : X.K = g.K) : OpX X g (binaryOp .Mult) opMul2 := by
  intro E pins s σ H x y v u Q I rx ry h
  obtain ⟨L, S, dx, dy, r, nx, ny, ev⟩ := h
  unfold opMul2 at ev
  split at ev
  · rename_i xs k
    split at ev
    · rename_i hb
      split at ev
      · rename_i hc
        obtain ⟨a, vs, rfl, ha, za⟩ := den_tup nx
        have hcv : vs = [] ∨ k = 1 := hc.imp (fun e => List.length_eq_zero_iff.mp (by rw [za.len, e]; rfl)) id
        cases den_int ny
        rw [← hk] at ha
        exact op_repT0 pins s σ H _ _ v u Q I rx ry ⟨a, k, vs, rfl, rfl, ha, hb.1, hb.2, .inl ⟨hcv, fin_val r ev nx⟩⟩
      · rename_i hc
        split at ev
        · rename_i hk0
          obtain ⟨a, vs, rfl, ha, za⟩ := den_tup nx
          have hne : vs ≠ [] := fun e => hc (.inl (List.length_eq_zero_iff.mp (by rw [← za.len, e]; rfl)))
          cases den_int ny
          rw [← hk] at ha
          exact op_repT0 pins s σ H _ _ v u Q I rx ry ⟨a, k, vs, rfl, rfl, ha, hb.1, hb.2, .inr ⟨hne, hk0, fin_tup r ev .nil⟩⟩
        · exact ox_mul hk E pins s σ H x y v u Q I rx ry ⟨L, S, _, _, r, nx, ny, ev⟩
    · exact ev.elim
  · exact ox_mul hk E pins s σ H x y v u Q I rx ry ⟨L, S, _, _, r, nx, ny, ev⟩

/-! ### name op= e -/
def opAddI : D → D → Sto → Out D := fun x y S => match x, y with
  | .pd (.int i), .pd (.int j) => .ok (.int (i + j)) S
  | _, _ => .stuck
def opSubI : D → D → Sto → Out D := fun x y S => match x, y with
  | .pd (.int i), .pd (.int j) => .ok (.int (i - j)) S
  | _, _ => .stuck
def opMulI : D → D → Sto → Out D := fun x y S => match x, y with
  | .pd (.int i), .pd (.int j) => if i.natAbs < 2 ^ 64 ∨ j.natAbs < 2 ^ 64 then .ok (.int (i * j)) S else .stuck
  | _, _ => .stuck
theorem oi_add : OpX X g (inplaceOp .Add) opAddI := by
  intro E pins s σ H x y v u Q I rx ry h
  obtain ⟨L, S, dx, dy, r, nx, ny, ev⟩ := h
  unfold opAddI at ev
  split at ev
  · cases den_int nx; cases den_int ny
    exact iop_add pins s σ H _ _ v u Q I rx ry ⟨_, _, rfl, rfl, fin_val r ev (.pd (.int _))⟩
  · exact ev.elim
theorem oi_sub : OpX X g (inplaceOp .Sub) opSubI := by
  intro E pins s σ H x y v u Q I rx ry h
  obtain ⟨L, S, dx, dy, r, nx, ny, ev⟩ := h
  unfold opSubI at ev
  split at ev
  · cases den_int nx; cases den_int ny
    exact iop_sub pins s σ H _ _ v u Q I rx ry ⟨_, _, rfl, rfl, fin_val r ev (.pd (.int _))⟩
  · exact ev.elim
theorem oi_mul : OpX X g (inplaceOp .Mult) opMulI := by
  intro E pins s σ H x y v u Q I rx ry h
  obtain ⟨L, S, dx, dy, r, nx, ny, ev⟩ := h
  unfold opMulI at ev
  split at ev
  · split at ev
    · rename_i hz
      cases den_int nx; cases den_int ny
      exact iop_mul pins s σ H _ _ v u Q I rx ry ⟨_, _, rfl, rfl, hz.imp (fun h => by omega) (fun h => by omega), fin_val r ev (.pd (.int _))⟩
    · exact ev.elim
  · exact ev.elim
end
end DL
end
section
namespace DL
open PySem PySem.Spec PyProof.Rows L2
open PySem.W (AllAlike Sortable dataLe SortsAt EachIs)
open Classical

/-! ### sorted(list), sorted(tuple) -/
section
variable {prog : Program} {w : World} {A : Around} {E : Value → Shared → Prop} {s : Shared}
theorem collect_tup {l : Addr} {vs : List Value} {Q : List Value → Shared → Prop} (hl : IsTup s.heap l vs.toArray)
    (h : Q vs { s with heap := (s.heap.push (seqObj "list" #[] 0)).update s.heap.objs.size (Obj.mapSeq (· ++ vs.toArray)) }) (hsz : vs.length ≤ sizeLine) :
    wpAny (model prog w) A (collect (.ref l)) Q E s := by
  obtain ⟨o, ho, hc, n, hd⟩ := id hl
  unfold collect
  refine wpAny_bind (wpAny_runValue (codeAny_builtin entry_proto_collect' ?_))
  show wpAny _ _ (do again (.builtin "list.__iadd__" ⟨[← newList [], .ref l], []⟩)) _ _ s
  refine wpAny_bind (wpAny_newList (wpAny_pure ⟨Code.quiet_builtin _ (by decide +kernel), codeAny_builtin entry_list_iadd' ?_⟩))
  show wpAny _ _ (Builtin.List.listExtendWith (.ref s.heap.objs.size) (.ref l) (.ref s.heap.objs.size)) _ _ { s with heap := s.heap.push (seqObj "list" #[] 0) }
  unfold Builtin.List.listExtendWith
  have ho' : (s.heap.push (seqObj "list" #[] 0)).get? l = some o := Heap.get?_push_of_some _ ho
  refine wpAny_bind (wpAny_typeOf (T := "tuple") ⟨o, ho', hc⟩ ?_)
  have ht : (Value.type "tuple" == Value.type "tuple") = true := by rfl
  rw [if_pos (by rw [ht]; simp)]
  refine wpAny_bind (listItems_at ho' hd ?_)
  refine wpAny_bind (listItems_at (xs := #[]) (n := 0) (Heap.get?_push_size _ rfl) rfl ?_)
  rw [if_neg (by simp)]
  refine wpAny_bind (listUpdate_at (xs := #[]) (n := 0) (Heap.get?_push_size _ rfl) rfl ?_ (Nat.zero_le _) (by show (#[] ++ vs.toArray).size ≤ sizeLine + 1; simp only [Array.size_append, List.size_toArray, List.length_nil]; omega))
  refine wpAny_pure ?_
  show wpAny (model prog w) A (do
      let o ← load s.heap.objs.size
      match o.data with
      | .seq xs _ => pure xs.toList
      | _ => unsupported "internal:collect") Q E { s with heap := (s.heap.push (seqObj "list" #[] 0)).update s.heap.objs.size (Obj.mapSeq (· ++ vs.toArray)) }
  refine wpAny_bind (wpAny_load (get?_update_seq (Heap.get?_push_size _ rfl) _) ?_)
  show wpAny _ _ (pure ((#[] : Array Value) ++ vs.toArray).toList) Q E _
  rw [show ((#[] : Array Value) ++ vs.toArray).toList = vs by simp]
  exact wpAny_pure h
theorem sorted_tup_of_sort {l : Addr} {vs : List Value} {kw : List (Str × Value)} {Q : Value → Shared → Prop} (hl : IsTup s.heap l vs.toArray) (hL : vs.length ≤ sizeLine) (ha1 : argsOk "sorted" ⟨[.ref l], kw⟩) (ha2 : ∀ x, argsOk "list.sort" ⟨[.ref x], kw⟩)
    (body : ∀ E' : Value → Shared → Prop, wpAny (model prog w) A.in1.in1 (Builtin.«list.sort» ⟨[.ref (s.heap.objs.size + 1)], kw⟩) (fun f s' => f = .done (.ret .none) ∧ Q (.ref (s.heap.objs.size + 1)) s') E' { s with heap := PySem.W.copyHeap s.heap vs }) :
    wpAny (model prog w) A (call (.builtin "sorted") [.ref l] kw) Q E s := by
  refine call_function_entry_kw kind_sorted plain_sorted entry_sorted ha1 ?_
  unfold Builtin.«sorted»
  refine wpAny_bind (m := checkCount "sorted" 1 1 _) (wpAny_pure ?_)
  refine wpAny_bind (collect_tup hl ?_ hL)
  refine wpAny_bind (wpAny_newList ?_ hL)
  have hsz : ((s.heap.push (seqObj "list" #[] 0)).update s.heap.objs.size (Obj.mapSeq (· ++ vs.toArray))).objs.size = s.heap.objs.size + 1 := by
    rw [Heap.size_update, size_push']
  show wpAny _ _ _ _ _ { s with heap := PySem.W.copyHeap s.heap vs }
  rw [hsz]
  refine wpAny_bind (wpAny_holding (wpAny_call_entry_kw slot_list_sort ⟨_, PySem.W.copyHeap_at s.heap vs, rfl⟩ entry_list_sort ?body (ha2 _)))
  case body =>
    show wpAny (model prog w) A.in1.in1 (Builtin.«list.sort» ⟨[.ref (s.heap.objs.size + 1)], kw⟩) _ _ _
    refine wpAny_mono (body _) (fun f s' hf => ?_) fun _ _ e => e
    obtain ⟨rfl, hq⟩ := hf
    exact ⟨_, rfl, wpAny_pure ⟨_, rfl, hq⟩⟩
variable {β : Type} {vs : List Value} {bs : List β} {enc : β → PyData} {R : Value → β → Prop}
theorem sorted_tup_data {l : Addr} {Q : Value → Shared → Prop} (hl : IsTup s.heap l vs.toArray) (e : EachIs R vs bs) (er : EachIs (fun v b => ∃ as, Reads s.heap v (enc b) as) vs bs) (hal : AllAlike (bs.map enc)) (hk : Sortable (bs.map enc)) (hL : bs.length ≤ sizeLine)
    (hu : ∀ b, b ∈ bs → A.units + 2 + (enc b).depth < cLine) (h : ∀ out, out.length = bs.length → EachIs R out (bs.mergeSort (dataLe false enc)) → Q (.ref (s.heap.objs.size + 1)) { s with heap := sortedAll s.heap vs (List.toArray out) }) :
    wpAny (model prog w) A (call (.builtin "sorted") [.ref l]) Q E s := by
  have er' : EachIs (fun v b => ∃ as, Reads (PySem.W.sortingHeap (PySem.W.copyHeap s.heap vs) (s.heap.objs.size + 1) vs) v (enc b) as) vs bs := er.mono fun _ _ ⟨as, r⟩ => ⟨as, PyProof.Rows.Reads.keeps (fun _ _ => PySem.W.sorting_copy_old) r⟩
  have S : SortsAt prog w A.in1.in1 { s with heap := PySem.W.sortingHeap (PySem.W.copyHeap s.heap vs) (s.heap.objs.size + 1) vs } _ vs := SortsAt.data (s := { s with heap := PySem.W.sortingHeap (PySem.W.copyHeap s.heap vs) (s.heap.objs.size + 1) vs }) (PySem.W.each_map (R := fun v d => ∃ as, Reads (PySem.W.sortingHeap (PySem.W.copyHeap s.heap vs) (s.heap.objs.size + 1) vs) v d as) enc er') hal hk (PySem.W.bound_map hu)
  have hL' : vs.length ≤ sizeLine := by rw [e.length]; exact hL
  exact sorted_tup_of_sort hl hL' (args_sorted1 _) (fun _ => args_list_sort _) fun _ => PySem.W.list_sort_vals (s := { s with heap := PySem.W.copyHeap s.heap vs }) (PySem.W.copyHeap_at s.heap vs) S hL'
    ⟨rfl, h _ (by rw [PySem.W.sortVals_length false rfl]; exact e.length) (PySem.W.sortVals_data false e er' hal)⟩
end
section
variable {X : Cx}
abbrev sortLe : V × PyData → V × PyData → Bool := dataLe false (fun p : V × PyData => p.2)
theorem eachZip {h : Heap} {P : V → Value → PyData → Prop} : ∀ {xs : List V} {us : List Value} {ds : List PyData}, Vals xs us → (xs.length = ds.length) → (∀ v u d, (v, d) ∈ xs.zip ds → RelV v u → P v u d) → EachIs (fun u b => P b.1 u b.2) us (xs.zip ds)
  | [], _, [], .nil, _, _ => .nil
  | x :: xs, _, d :: ds, .cons r t, hl, f => .cons (f x _ d List.mem_cons_self r) (eachZip (h := h) t (by simpa using hl) fun v u d hm => f v u d (List.mem_cons_of_mem _ hm))
theorem eachVals {bs : List (V × PyData)} : ∀ {us : List Value}, EachIs (fun u (b : V × PyData) => RelV b.1 u) us bs → Vals (bs.map (·.1)) us := by
  intro us h
  induction h with
  | nil => exact .nil
  | cons h t ih => exact .cons h ih
theorem zip_dp {K : PySem.W.Frag} {H : Hp} : ∀ {xs : List V} {ds : List PyData}, DpAll K H xs ds → ∀ v d, (v, d) ∈ xs.zip ds → Dp K H v d
  | _, _, .nil, v, d, h => by cases h
  | _, _, .cons h t, v, d, hm => by
    rcases List.mem_cons.mp hm with e | hm
    · cases e; exact h
    · exact zip_dp t v d hm
theorem dpAll_len {K : PySem.W.Frag} {H : Hp} : ∀ {xs : List V} {ds : List PyData}, DpAll K H xs ds → xs.length = ds.length
  | _, _, .nil => rfl
  | _, _, .cons h t => by rw [List.length_cons, List.length_cons, dpAll_len t]
def rSortedD (K : PySem.W.Frag) : List V → Hp → VK → Prop := fun vs H Q => ∃ (a : Addr) (xs : List V) (ds : List PyData), vs = [V.ref a] ∧ (SqL K H a xs ∨ SqT K H a xs) ∧ DpAll K H xs ds ∧ AllAlike ds ∧ Sortable ds ∧ (∀ d ∈ ds, d.depth ≤ 60) ∧
  ∀ p, H p = none → Q (.ref p) (upd H p (.lst (((xs.zip ds).mergeSort sortLe).map (·.1))))
theorem cr_sortedD (hu : X.A.units + 64 < cLine) : CallR X (.builtin "sorted") (rSortedD X.K) := by
  intro pins s σ H vs us Q I r h
  obtain ⟨a, xs, ds, rfl, hs, hd, hal, hk, hdp, q⟩ := h
  rw [Vals.ref1 r]
  have hlen := dpAll_len hd
  have hmap : (xs.zip ds).map (fun p => p.2) = ds := by rw [List.map_snd_zip]; omega
  have fin : ∀ (its : List Value), Vals xs its → xs.length ≤ sizeLine → ∀ out : List Value, EachIs (fun u (b : V × PyData) => RelV b.1 u) out ((xs.zip ds).mergeSort (dataLe false fun p => p.2)) →
      EP X pins σ Q (.ref (s.heap.objs.size + 1)) { s with heap := sortedAll s.heap its (List.toArray out) } := fun its rv hz out ho => by
    obtain ⟨ep, he'⟩ := PyProof.Rows.sortedAll_at s.heap its out.toArray
    refine ⟨.ref _, upd H (s.heap.objs.size + 1) (.lst (((xs.zip ds).mergeSort sortLe).map (·.1))), I.laid (t' := s.toks) (fun _ _ => PyProof.Rows.sortedAll_old) (Nat.le_succ _) ⟨?_, out, ep, eachVals ho, he'⟩, rfl, q _ (I.hok.fresh (Nat.le_succ _))⟩
    rw [List.length_map, (List.mergeSort_perm _ _).length_eq, List.length_zip]
    omega
  have hb : ∀ b, b ∈ xs.zip ds → X.A.units + 2 + b.2.depth < cLine := fun b hb => by
    have := hdp b.2 (List.of_mem_zip hb).2
    omega
  rcases hs with hs | hs
  · obtain ⟨its, rv, hl, hz⟩ := I.list hs
    exact PySem.W.sorted_data (β := V × PyData) (enc := fun p => p.2) (R := fun u b => RelV b.1 u) hl.isList (eachZip (h := s.heap) (P := fun v u d => RelV v u) rv hlen fun v u d _ h => h)
      (eachZip (h := s.heap) (P := fun v u d => ∃ as, Reads s.heap u d as) rv hlen fun v u d hm h => Dp.reads I d v u (zip_dp hd v d hm) h) (by rw [hmap]; exact hal) (by rw [hmap]; exact hk) (by rw [List.length_zip]; omega) hb fun out _ ho => fin its rv hz out ho
  · obtain ⟨its, rv, hl, hz⟩ := I.tuple hs
    exact sorted_tup_data (β := V × PyData) (enc := fun p => p.2) (R := fun u b => RelV b.1 u) hl (eachZip (h := s.heap) (P := fun v u d => RelV v u) rv hlen fun v u d _ h => h)
      (eachZip (h := s.heap) (P := fun v u d => ∃ as, Reads s.heap u d as) rv hlen fun v u d hm h => Dp.reads I d v u (zip_dp hd v d hm) h) (by rw [hmap]; exact hal) (by rw [hmap]; exact hk) (by rw [List.length_zip]; omega) hb fun out _ ho => fin its rv hz out ho
end
section
variable {X : Cx} {g : G} {E : WX} {L : List Addr} {H : Hp} {S : Sto} {d : D} {v : V}
def sortOk (zs : List PyData) : Prop := PyData.hasDictAll zs = false ∧ AllAlike zs ∧ Sortable zs ∧ ∀ d ∈ zs, d.depth ≤ 60
def sortD (zs : List PyData) : List PyData := zs.mergeSort (dataLe false id)
noncomputable def fSorted : LF := fun ds S => match ds with
  | [d] => match asQ S d with
    | some xs => match pdL xs with
      | some zs => if sortOk zs then .ok (.lst (sortD zs)) S else .stuck
      | none => .stuck
    | none => .stuck
  | _ => .stuck
theorem zip_dz {K : PySem.W.Frag} {W : Addr → Prop} {H : Hp} : ∀ {xs : List V} {ds : List PyData}, DzAll K W H xs ds → ∀ p, p ∈ xs.zip ds → Dz K W H p.1 p.2
  | _, _, .nil, p, h => by cases h
  | _, _, .cons h t, p, hm => by
    rcases List.mem_cons.mp hm with e | hm
    · cases e; exact h
    · exact zip_dz t p hm
theorem dz_of {K : PySem.W.Frag} {W : Addr → Prop} {H : Hp} : ∀ {bs : List (V × PyData)}, (∀ p ∈ bs, Dz K W H p.1 p.2) → DzAll K W H (bs.map (·.1)) (bs.map (·.2))
  | [], _ => .nil
  | b :: bs, h => .cons (h b List.mem_cons_self) (dz_of fun p hp => h p (List.mem_cons_of_mem _ hp))
theorem sort_dz {K : PySem.W.Frag} {W : Addr → Prop} {H : Hp} {xs : List V} {ds : List PyData} (h : DzAll K W H xs ds) : DzAll K W H (((xs.zip ds).mergeSort sortLe).map (·.1)) (sortD ds) := by
  have e : ((xs.zip ds).mergeSort sortLe).map (·.2) = sortD ds := by
    unfold sortD
    rw [show ((xs.zip ds).mergeSort sortLe).map (fun x => x.2) = ((xs.zip ds).map (fun x => x.2)).mergeSort (dataLe false id) from List.map_mergeSort fun a _ b _ => rfl]
    congr 1
    rw [List.map_snd_zip]
    rw [h.len]; exact Nat.le_refl _
  rw [← e]
  exact dz_of fun p hp => zip_dz h p ((List.mergeSort_perm _ _).mem_iff.mp hp)
theorem cx_sorted (hk : X.K = g.K) (hu : X.A.units + 64 < cLine) : CallX X g (.builtin "sorted") fSorted := by
  intro E pins s σ H xs us Q I r h
  obtain ⟨L, S, ds, rp, dn, ev⟩ := h
  unfold fSorted at ev
  split at ev
  · cases dn with
    | cons d1 d2 =>
      cases d2
      split at ev
      · rename_i ys ey
        split at ev
        · rename_i zs ez
          split at ev
          · rename_i hz
            obtain ⟨a, vs, rfl, rd, dz⟩ := asQ_ok rp d1 ey
            rw [← hk] at rd
            have z := dens_dz (pdL_eq ez ▸ dz)
            exact cr_sortedD hu pins s σ H _ us Q I r ⟨a, vs, zs, rfl, rd, by rw [hk]; exact z.dp hz.1, hz.2.1, hz.2.2.1, hz.2.2.2, fin_lst rp ev (sort_dz z)⟩
          · exact ev.elim
        · exact ev.elim
      · exact ev.elim
  · exact ev.elim
end
end DL
end
section
namespace DL
open PySem PySem.Spec PyProof.Rows L2
open Classical

/-! ### a, *rest = .. (the star last) -/
section
variable {prog : Program} {w : World} {A : Around} {E : Value → Shared → Prop} {s : Shared}
theorem star_list {l : Addr} {items : Array Value} {i : Nat} {Q : List Value → Shared → Prop} (hl : s.heap.IsList l items) (hh : A.handled = none) (hi : i ≤ items.size) (hz : items.size ≤ sizeLine)
    (h : ∀ (h' : Heap) tk, (∀ b o, s.heap.get? b = some o → h'.get? b = some o) → Q (items.toList.take i ++ [.ref h'.objs.size]) { s with heap := h'.push { cls := .type "list", data := .seq (items.toList.drop i).toArray }, toks := tk }) :
    wpAny (model prog w) A (unpackItems (.ref l) (i + 1) (some i)) Q E s := by
  have hlt : l ≠ s.heap.objs.size := by obtain ⟨o, ho, _⟩ := hl; exact Nat.ne_of_lt (Heap.lt_size ho)
  unfold unpackItems
  refine wpAny_bind ?_
  unfold notIterableAtAll
  refine wpAny_bind (wpAny_specialOf hl.typeIs slot_list_iter.lookup ?_)
  refine wpAny_pure ?_
  simp only [Bool.false_eq_true, if_false]
  refine wpAny_bind (wpAny_holding (wpAny_pyIter_list hl ?_))
  refine wpAny_bind (wpAny_holding (PySem.W.kun_draw hlt i 0 _ _ ⟨_, Heap.get?_push_size _ rfl, rfl, rfl⟩ (hl.push _) (by omega) fun h₁ hit₁ hs₁ => ?_))
  have hl₁ : h₁.IsList l items := (hl.push _).extBut hs₁.extBut hlt
  rw [Nat.zero_add] at hit₁
  have hit₁' := hit₁
  obtain ⟨oi, hoi, _⟩ := hit₁'
  have hl₁' := hl₁
  obtain ⟨ol, hol, _⟩ := hl₁'
  rw [List.drop_zero]
  have hfl : (items.toList.take i).length = i := by rw [List.length_take, Array.length_toList]; omega
  rw [if_neg (show ¬ ((items.toList.take i).length < i) by rw [hfl]; omega)]
  refine wpAny_bind (wpAny_holding (PySem.W.kun_collect (s := { s with heap := h₁ }) (T := "list_iterator") (.inr (.inr (.inl rfl))) (Walks.list (A := A.in1) hh s.heap.objs.size l hlt items) (fun j u st => st.1.typeIs) (k := i) hi ⟨hit₁, hl₁⟩ (Heap.lt_size hoi) (Heap.lt_size hol) (fun h₂ tk hk => ?_) hz))
  have hsub : i + 1 - 1 - i = 0 := by omega
  show wpAny _ _ (if (items.toList.drop i).length < i + 1 - 1 - i then _ else _) _ _ _
  rw [if_neg (by rw [hsub]; omega)]
  show wpAny _ _ (newList ((items.toList.drop i).take ((items.toList.drop i).length - (i + 1 - 1 - i))) >>= fun d => pure (items.toList.take i ++ [d] ++ (items.toList.drop i).drop ((items.toList.drop i).length - (i + 1 - 1 - i)))) _ _ _
  rw [hsub, Nat.sub_zero, List.take_length, List.drop_length]
  refine wpAny_bind (wpAny_newList (wpAny_pure ?_) (by rw [List.length_drop, Array.length_toList]; omega))
  rw [List.append_nil]
  exact h h₂ tk fun b o e => hk b o (Nat.ne_of_lt (Heap.lt_size e)) (hs₁.extBut b o (Nat.ne_of_lt (Heap.lt_size e)) (Heap.get?_push_of_some _ e))
theorem star_tup {l : Addr} {items : Array Value} {i : Nat} {Q : List Value → Shared → Prop} (hl : IsTup s.heap l items) (hh : A.handled = none) (hi : i ≤ items.size) (hz : items.size ≤ sizeLine)
    (h : ∀ (h' : Heap) tk, (∀ b o, s.heap.get? b = some o → h'.get? b = some o) → Q (items.toList.take i ++ [.ref h'.objs.size]) { s with heap := h'.push { cls := .type "list", data := .seq (items.toList.drop i).toArray }, toks := tk }) :
    wpAny (model prog w) A (unpackItems (.ref l) (i + 1) (some i)) Q E s := by
  have hlt : l ≠ s.heap.objs.size := by obtain ⟨o, ho, _⟩ := hl; exact Nat.ne_of_lt (Heap.lt_size ho)
  unfold unpackItems
  refine wpAny_bind ?_
  unfold notIterableAtAll
  refine wpAny_bind (wpAny_specialOf hl.typeIs slot_tuple_iter.lookup ?_)
  refine wpAny_pure ?_
  simp only [Bool.false_eq_true, if_false]
  refine wpAny_bind (wpAny_holding (iter_tuple hl ?_))
  refine wpAny_bind (wpAny_holding (draw_tuple hlt i 0 _ _ ⟨_, Heap.get?_push_size _ rfl, rfl, rfl⟩ (hl.push _) (by omega) fun h₁ hit₁ hs₁ => ?_))
  have hl₁ : IsTup h₁ l items := (hl.push _).extBut hs₁.extBut hlt
  rw [Nat.zero_add] at hit₁
  have hit₁' := hit₁
  obtain ⟨oi, hoi, _⟩ := hit₁'
  have hl₁' := hl₁
  obtain ⟨ol, hol, _⟩ := hl₁'
  rw [List.drop_zero]
  have hfl : (items.toList.take i).length = i := by rw [List.length_take, Array.length_toList]; omega
  rw [if_neg (show ¬ ((items.toList.take i).length < i) by rw [hfl]; omega)]
  refine wpAny_bind (wpAny_holding (PySem.W.kun_collect (s := { s with heap := h₁ }) (T := "tuple_iterator") (.inr (.inr (.inr rfl))) (Walks.tuple (A := A.in1) hh s.heap.objs.size l hlt items) (fun j u st => st.1.typeIs) (k := i) hi ⟨hit₁, hl₁⟩ (Heap.lt_size hoi) (Heap.lt_size hol) (fun h₂ tk hk => ?_) hz))
  have hsub : i + 1 - 1 - i = 0 := by omega
  show wpAny _ _ (if (items.toList.drop i).length < i + 1 - 1 - i then _ else _) _ _ _
  rw [if_neg (by rw [hsub]; omega)]
  show wpAny _ _ (newList ((items.toList.drop i).take ((items.toList.drop i).length - (i + 1 - 1 - i))) >>= fun d => pure (items.toList.take i ++ [d] ++ (items.toList.drop i).drop ((items.toList.drop i).length - (i + 1 - 1 - i)))) _ _ _
  rw [hsub, Nat.sub_zero, List.take_length, List.drop_length]
  refine wpAny_bind (wpAny_newList (wpAny_pure ?_) (by rw [List.length_drop, Array.length_toList]; omega))
  rw [List.append_nil]
  exact h h₂ tk fun b o e => hk b o (Nat.ne_of_lt (Heap.lt_size e)) (hs₁.extBut b o (Nat.ne_of_lt (Heap.lt_size e)) (Heap.get?_push_of_some _ e))
end
theorem Vals.takeL : ∀ {xs : List V} {us : List Value} (i : Nat), Vals xs us → Vals (xs.take i) (us.take i)
  | _, _, 0, _ => .nil
  | _, _, _ + 1, .nil => .nil
  | _, _, i + 1, .cons h t => .cons h (Vals.takeL i t)
theorem Vals.dropL : ∀ {xs : List V} {us : List Value} (i : Nat), Vals xs us → Vals (xs.drop i) (us.drop i)
  | _, _, 0, h => h
  | _, _, _ + 1, .nil => .nil
  | _, _, i + 1, .cons h t => Vals.dropL i t
def gStar (K : PySem.W.Frag) (i : Nat) (t : TGs) : TG := fun v σ H Q => ∃ a xs, v = .ref a ∧ (SqL K H a xs ∨ SqT K H a xs) ∧ i ≤ xs.length ∧ ∀ p, H p = none → t (xs.take i ++ [.ref p]) σ (upd H p (.lst (xs.drop i))) Q
section
variable {X : Cx} {es es' : List Expr} {k i : Nat} {t : TGs} {pos : Pos}
theorem PGs.same (h : PGs X es t) (e : (assignEach es' X.env).map (·.2) = (assignEach es X.env).map (·.2)) : PGs X es' t := ⟨fun p s σ H vs us Q I r q => by rw [e]; exact h.run p s σ H vs us Q I r q⟩
theorem pg_star (hc : X.calm = true) (h : PGs X es t) (hn : (assignEach es X.env).length = i + 1 := by rfl) (hst : (assignEach es X.env).findIdx? (·.1) = some i := by rfl) : PG X (.Tuple es k pos) (gStar X.K i t) := by
  refine ⟨fun pins s σ H v u Q I r hw => ?_⟩
  obtain ⟨a, xs, e1, hq, hl, hw⟩ := hw
  subst e1
  cases r
  rw [PyProof.Rows.assign_Tuple]
  refine wpAny_bind (wpAny_standAt ?_)
  unfold unpack
  rw [hn, hst]
  have fin : ∀ its : List Value, Vals xs its → xs.length ≤ sizeLine → ∀ (h' : Heap) tk, (∀ b o, s.heap.get? b = some o → h'.get? b = some o) →
      wpAny (model X.prog X.w) X.A (assignInOrder ((assignEach es X.env).map (·.2)) (its.take i ++ [.ref h'.objs.size])) (fun _ s2 => ∃ σ' H', Inv X pins σ' H' s2 ∧ Q σ' H') X.xe { s with heap := h'.push { cls := .type "list", data := .seq (its.drop i).toArray }, toks := tk } := fun its rv hz h' tk k => by
    have I1 : Inv X pins σ H { s with heap := h', toks := tk } := I.kept k
    have I2 : Inv X pins σ (upd H h'.objs.size (.lst (xs.drop i))) { s with heap := h'.push { cls := .type "list", data := .seq (its.drop i).toArray }, toks := tk } :=
      L2.Inv.lnew (s := { s with heap := h', toks := tk }) I1 (Vals.dropL i rv) (by rw [List.length_drop]; omega)
    exact h.run pins _ σ _ _ _ Q I2 (L2.Vals.append (Vals.takeL i rv) (.cons (show RelV (V.ref h'.objs.size) (Value.ref h'.objs.size) from rfl) .nil)) (hw _ (I1.hok.fresh (Nat.le_refl _)))
  rcases hq with hq | hq
  · obtain ⟨its, rv, pl, hz⟩ := I.list hq
    have hlen := rv.length
    exact wpAny_bind (wpAny_holding (star_list pl.isList (I.ok.hd hc) (by simp only [List.size_toArray]; omega) (by simp only [List.size_toArray]; omega) fun h' tk k => by simpa using fin its rv hz h' tk k))
  · obtain ⟨its, rv, pl, hz⟩ := I.tuple hq
    have hlen := rv.length
    exact wpAny_bind (wpAny_holding (star_tup pl (I.ok.hd hc) (by simp only [List.size_toArray]; omega) (by simp only [List.size_toArray]; omega) fun h' tk k => by simpa using fin its rv hz h' tk k))
variable {g : G} {E : WX} {u : TgsD} {e tg : Expr} {me : DM D}
/-- the rest a list of the store; a list that stays -/
def sStarM (i : Nat) (u : TgsD) (m : DM D) : DM Fl := fun σ S => (m σ S).bind fun d S' => match asQ S' d with
  | some xs => if i ≤ xs.length then (match u (xs.take i ++ [.ref S'.length]) σ with
    | some σ' => .ok (.next σ') (S' ++ [.lst (xs.drop i)])
    | none => .stuck) else .stuck
  | none => .stuck
def sStarF (i : Nat) (u : TgsD) (m : DM D) : DM Fl := fun σ S => (m σ S).bind fun d S' => match asQ S' d with
  | some xs => match pdL (xs.drop i) with
    | some zs => if i ≤ xs.length then (match u (xs.take i ++ [.lst zs]) σ with
      | some σ' => .ok (.next σ') S'
      | none => .stuck) else .stuck
    | none => .stuck
  | none => .stuck
theorem Paired.dropR {α β : Type} {F : α → β → Prop} : ∀ {l : List α} {l' : List β} (n : Nat), Paired F l l' → Paired F (l.drop n) (l'.drop n)
  | _, _, 0, h => h
  | _, _, _ + 1, .nil => .nil
  | _, _, n + 1, .cons r t => Paired.dropR n t
theorem qs_starM (hk : X.K = g.K) (hc : X.calm = true) (he : PE X e (T g E me)) (hg : PGs X es (GTs g u)) (hm : (assignEach es' X.env).map (·.2) = (assignEach es X.env).map (·.2) := by rfl)
    (hn : (assignEach es' X.env).length = i + 1 := by rfl) (hst : (assignEach es' X.env).findIdx? (·.1) = some i := by rfl) {tpos : Pos} (hs : swapsWithSole [.Tuple es' k tpos] e pos.line X.env = pure false := by rfl) (hw : swappedStores [.Tuple es' k tpos] e X.env = pure none := by rfl)
    (h1 : (assignEach [.Tuple es' k tpos] X.env).map (·.2) = [assign (.Tuple es' k tpos) X.env] := by rfl) : PS X (.Assign [.Tuple es' k tpos] e pos) (TSt g E (sStarM i u me)) :=
  PS.imp (ps_asg he (pg_star hc (PGs.same hg hm) hn hst) hs hw h1) fun D σ H ⟨L, σd, S, rp, sl, ev⟩ => ⟨L, σd, S, rp, sl, (Ev.bind ev).imp fun d S1 L1 H1 x1 r1 ev1 v dn => by
    split at ev1
    · rename_i xs ex
      split at ev1
      · rename_i hi
        split at ev1
        · rename_i σ' eu
          obtain ⟨a, vs, rfl, rd, dz⟩ := asQ_ok r1 dn ex
          rw [← hk] at rd
          refine ⟨a, vs, rfl, rd, by rw [← Paired.len dz]; exact hi, fun p hp => ?_⟩
          have xn : Ext g L1 H1 (L1 ++ [p]) (upd H1 p (.lst (vs.drop i))) := Ext.newM hp
          have rn := r1.newM (ob := .lst (xs.drop i)) hp (.lst upd_same (Dens.ext r1 xn (Paired.dropR i dz))) (r1.h0 hp)
          refine ⟨L1 ++ [p], σd, S1 ++ [.lst (xs.drop i)], _, σ', rn, (sl.ext rp x1).ext r1 xn, Dens.app (Dens.ext r1 xn (Paired.takeL i dz)) (.cons (.ref ?_) .nil), eu, fun σ2 sl2 => ev1 (L1 ++ [p]) _ xn rn σ2 sl2⟩
          have hL : S1.length = L1.length := Paired.len r1.obs
          rw [hL]; simp
        · exact ev1.elim
      · exact ev1.elim
    · exact ev1.elim⟩
theorem qs_starF (hk : X.K = g.K) (hc : X.calm = true) (he : PE X e (T g E me)) (hg : PGs X es (GTs g u)) (hm : (assignEach es' X.env).map (·.2) = (assignEach es X.env).map (·.2) := by rfl)
    (hn : (assignEach es' X.env).length = i + 1 := by rfl) (hst : (assignEach es' X.env).findIdx? (·.1) = some i := by rfl) {tpos : Pos} (hs : swapsWithSole [.Tuple es' k tpos] e pos.line X.env = pure false := by rfl) (hw : swappedStores [.Tuple es' k tpos] e X.env = pure none := by rfl)
    (h1 : (assignEach [.Tuple es' k tpos] X.env).map (·.2) = [assign (.Tuple es' k tpos) X.env] := by rfl) : PS X (.Assign [.Tuple es' k tpos] e pos) (TSt g E (sStarF i u me)) :=
  PS.imp (ps_asg he (pg_star hc (PGs.same hg hm) hn hst) hs hw h1) fun D σ H ⟨L, σd, S, rp, sl, ev⟩ => ⟨L, σd, S, rp, sl, (Ev.bind ev).imp fun d S1 L1 H1 x1 r1 ev1 v dn => by
    split at ev1
    · rename_i xs ex
      split at ev1
      · rename_i zs ez
        split at ev1
        · rename_i hi
          split at ev1
          · rename_i σ' eu
            obtain ⟨a, vs, rfl, rd, dz⟩ := asQ_ok r1 dn ex
            rw [← hk] at rd
            refine ⟨a, vs, rfl, rd, by rw [← Paired.len dz]; exact hi, fun p hp => ?_⟩
            have z : DzAll g.K (g.wr L1) H1 (vs.drop i) zs := dens_dz (pdL_eq ez ▸ Paired.dropR i dz)
            have xn : Ext g L1 H1 L1 (upd H1 p (.lst (vs.drop i))) := Ext.new1 hp
            have rn := r1.new1 (o := .lst (vs.drop i)) hp
            exact ⟨L1, σd, S1, _, σ', rn, (sl.ext rp x1).ext r1 xn, Dens.app (Dens.ext r1 xn (Paired.takeL i dz)) (.cons (.pd (.lst (r1.free hp) (.inl upd_same) (z.new r1 hp))) .nil), eu, fun σ2 sl2 => ev1 L1 _ xn rn σ2 sl2⟩
          · exact ev1.elim
        · exact ev1.elim
      · exact ev1.elim
    · exact ev1.elim⟩
end
end DL
end
section
namespace DL
open PySem PySem.Spec PyProof.Rows L2
open Classical
section
variable {g g' : G} {E : WX} {L L' L0 : List Addr} {H H' H0 : Hp} {S S' : Sto} {σd : Sl} {σ : L2.St} {v : V} {d : D}
variable {X : Cx} {tg a b e : Expr} {me ma mb : DM D} {ml : DM (List D)} {pos p p2 tpos : Pos}

/-! ### tuple(range(..)), list(range(..)) -/
def rgD (a b : Int) : List PyData := (List.range (b - a).toNat).map fun (i : Nat) => .int (a + i)
theorem rg_dz {K : PySem.W.Frag} {W : Addr → Prop} (a b : Int) : DzAll K W H (rgV a b) (rgD a b) := by
  unfold rgV rgD
  generalize List.range (b - a).toNat = l
  induction l with
  | nil => exact .nil
  | cons x l ih => exact .cons (.int _) ih
noncomputable def kRg (tup : Bool) (a b : Int) : Sto → Out D := fun S => if RgOk a b then .ok (if tup = true then .tup (rgD a b) else .lst (rgD a b)) S else .stuck
noncomputable def eRg1 (tup : Bool) (m : DM D) : DM D := mBind m fun d => fun _ S => match d with
  | .pd (.int n) => kRg tup 0 n S
  | _ => .stuck
noncomputable def eRg2 (tup : Bool) (m n : DM D) : DM D := mBind m fun d => mBind n fun d' => fun _ S => match d, d' with
  | .pd (.int i), .pd (.int j) => kRg tup i j S
  | _, _ => .stuck
theorem px_tupRg1 (hc : X.calm = true) (hg : Gl X "tuple") (hm : X.mg "tuple" = none) (hg2 : Gl X "range") (hm2 : X.mg "range" = none) (ha : PE X a (T g E ma)) {p pos p2 pos2 : Pos} (na : starEach [a] X.env = (false, eval a X.env) :: starEach [] X.env := by rfl)
    (nb : starEach [.Call (.Name "range" p2) [a] [] pos2] X.env = (false, eval (.Call (.Name "range" p2) [a] [] pos2) X.env) :: starEach [] X.env := by rfl) :
    PE X (.Call (.Name "tuple" p) [.Call (.Name "range" p2) [a] [] pos2] [] pos) (T g E (eRg1 true ma)) :=
  PE.imp (pe_tupRg hc hg hm (prg_1 hg2 hm2 ha na) nb) fun σ H Q ⟨L, σd, S, rp, sl, ev⟩ => ⟨L, σd, S, rp, sl, ev.step fun d S1 L1 H1 x1 r1 ev1 v dn => by
    split at ev1
    · rename_i n
      cases den_int dn
      unfold kRg at ev1
      split at ev1
      · rename_i hr
        exact ⟨n, rfl, hr, fin_tup r1 ev1 (rg_dz 0 n)⟩
      · exact ev1.elim
    · exact ev1.elim⟩
theorem px_lstRg1 (hc : X.calm = true) (hg : Gl X "list") (hm : X.mg "list" = none) (hg2 : Gl X "range") (hm2 : X.mg "range" = none) (ha : PE X a (T g E ma)) {p pos p2 pos2 : Pos} (na : starEach [a] X.env = (false, eval a X.env) :: starEach [] X.env := by rfl)
    (nb : starEach [.Call (.Name "range" p2) [a] [] pos2] X.env = (false, eval (.Call (.Name "range" p2) [a] [] pos2) X.env) :: starEach [] X.env := by rfl) :
    PE X (.Call (.Name "list" p) [.Call (.Name "range" p2) [a] [] pos2] [] pos) (T g E (eRg1 false ma)) :=
  PE.imp (pe_listRg hc hg hm (prg_1 hg2 hm2 ha na) nb) fun σ H Q ⟨L, σd, S, rp, sl, ev⟩ => ⟨L, σd, S, rp, sl, ev.step fun d S1 L1 H1 x1 r1 ev1 v dn => by
    split at ev1
    · rename_i n
      cases den_int dn
      unfold kRg at ev1
      split at ev1
      · rename_i hr
        exact ⟨n, rfl, hr, fin_lst r1 ev1 (rg_dz 0 n)⟩
      · exact ev1.elim
    · exact ev1.elim⟩

/-! ### zip of two tuples, of two lists that stay -/
def zipIt (xs ys : List PyData) : List D := List.zipWith (fun x y => D.tup [x, y]) xs ys
def wkZip : List D → DM Wk := fun ds _ S => match ds with
  | [.pd (.tuple xs), .pd (.tuple ys)] => .ok ⟨zipIt xs ys, .no⟩ S
  | [.pd (.list xs), .pd (.list ys)] => .ok ⟨zipIt xs ys, .no⟩ S
  | _ => .stuck
def iZip (m : DM (List D)) : DM Wk := mBind m wkZip
theorem zipIt_get {xs ys : List PyData} {i : Nat} (e : (zipIt xs ys)[i]? = some d) : ∃ x y, xs[i]? = some x ∧ ys[i]? = some y ∧ d = .tup [x, y] := by
  unfold zipIt at e
  rw [List.getElem?_zipWith] at e
  cases e1 : xs[i]? with
  | none => rw [e1] at e; cases e
  | some x =>
    cases e2 : ys[i]? with
    | none => rw [e1, e2] at e; cases e
    | some y => rw [e1, e2] at e; cases e; exact ⟨x, y, rfl, rfl, rfl⟩
theorem DzAll.getZ {K : PySem.W.Frag} {W : Addr → Prop} {ds : List PyData} {vs : List V} (h : DzAll K W H vs ds) {i : Nat} {d : PyData} (e : ds[i]? = some d) : ∃ v, vs[i]? = some v ∧ Dz K W H v d := h.get e
theorem pairNew {x y : V} {dx dy : PyData} {T : Addr} (r : RepS g' L S H) (hT : H T = none) (hx : Dz g'.K (g'.wr L) H x dx) (hy : Dz g'.K (g'.wr L) H y dy) : Ext g L H L (upd H T (.tup [x, y])) ∧ RepS g' L S (upd H T (.tup [x, y])) ∧ Den g' L (upd H T (.tup [x, y])) (.tup [dx, dy]) (.ref T) := by
  have rn := r.new1 (o := .tup [x, y]) hT
  have z : DzAll g'.K (g'.wr L) H [x, y] [dx, dy] := .cons hx (.cons hy .nil)
  exact ⟨Ext.any (g := g') (Ext.new1 hT), rn, .pd (.tup (SqT.of upd_same) (z.new r hT))⟩
theorem ix_zip (hK : X.K = g.K) (hg : Gl X "zip") (hm : X.mg "zip" = none) {elts : List Expr} {kk : Nat} (ha : PA X [a, b] (TL g E ml))
    (hs : starEach [a, b] X.env = (false, eval a X.env) :: starEach [b] X.env := by rfl) (hpl : (backTo pos (starEach [b] X.env)).any (·.1) = false := by rfl) :
    PI X (.Tuple elts kk tpos) (.Call (.Name "zip" p) [a, b] [] pos) (TW g E (iZip ml)) :=
  PI.imp (RZ.pi_zipA hg hm ha hs hpl) fun σ H R ⟨L, σd, S, rp, sl, ev⟩ => ⟨L, σd, S, rp, sl, ev.step fun ds S1 L1 H1 x1 r1 ev1 vs dn => by
    unfold wkZip at ev1
    split at ev1
    · rename_i xs ys
      have fin := ev1.ok r1
      cases dn with
      | cons n1 n2 =>
        cases n2 with
        | cons n2 n3 =>
          cases n3
          obtain ⟨p1, v1, rfl, ds1, h1⟩ := seq_stays (S := S1) r1 n1 (xs := xs.map .pd) rfl
          obtain ⟨p2, v2, rfl, ds2, h2⟩ := seq_stays (S := S1) r1 n2 (xs := ys.map .pd) rfl
          obtain ⟨_, _, e1, t1, _⟩ := den_tup n1
          obtain ⟨_, _, e2, t2, _⟩ := den_tup n2
          cases e1; cases e2
          obtain ⟨a1, w1, e1, t1, z1⟩ := den_tup n1
          obtain ⟨a2, w2, e2, t2, z2⟩ := den_tup n2
          cases e1; cases e2
          rw [hK]
          refine ⟨p1, p2, w1, w2, rfl, .inr ⟨t1, t2, fin _ fun g' L S H gx x r' _ => ?_⟩⟩
          have stay : ∀ {p : Addr} {w : List V}, SqT g.K H1 p w → SqT g.K H p w := fun {p w} rd => SqT.keep rd fun zs hz o e' => x.keep p o e' fun hm => by
            obtain ⟨o2, e2, nt⟩ := r1.there hm
            rcases hz with hz | ⟨o3, hz⟩
            · rw [hz] at e2; cases e2; exact nt.1 zs rfl
            · rw [hz] at e2; cases e2; exact nt.2 o3 zs rfl
          refine ⟨fun i d e => ?_, w1, w2, stay t1, stay t2, ?_⟩
          · obtain ⟨dx, dy, ex, ey, rfl⟩ := zipIt_get e
            obtain ⟨x', gx', zx⟩ := z1.get ex
            obtain ⟨y', gy', zy⟩ := z2.get ey
            refine ⟨⟨w1, w2, x', y', stay t1, stay t2, gx', gy'⟩, fun z H' hz => ?_⟩
            obtain ⟨T, x2, y2, rfl, hT, rfl, f1, f2⟩ := hz
            have e3 := f1 _ (stay t1)
            have e4 := f2 _ (stay t2)
            rw [gx'] at e3; cases e3
            rw [gy'] at e4; cases e4
            have k := kpx r1 gx x
            exact pairNew r' hT (gx.K ▸ zx.keep k) (gx.K ▸ zy.keep k)
          · rw [z1.len, z2.len]
            show _ ≤ (zipIt xs ys).length ∨ _ ≤ (zipIt xs ys).length
            unfold zipIt
            rw [List.length_zipWith]
            omega
    · rename_i xs ys
      have fin := ev1.ok r1
      cases dn with
      | cons n1 n2 =>
        cases n2 with
        | cons n2 n3 =>
          cases n3
          cases n1 with
          | pd q1 =>
          cases n2 with
          | pd q2 =>
          cases q1 with
          | @lst p1 w1 _ nw1 t1 z1 =>
          cases q2 with
          | @lst p2 w2 _ nw2 t2 z2 =>
          rw [hK]
          refine ⟨p1, p2, w1, w2, rfl, .inl ⟨.inl t1, .inl t2, fin _ fun g' L S H gx x r' _ => ?_⟩⟩
          have stay : ∀ {p : Addr} {w : List V}, ¬ g.wr L1 p → Rd H1 p (.lst w) → SqL g.K H p w := fun {p w} nw rd => .inl (Rd.keep rd fun o e' => x.keep p o e' fun hm => nw (.inr hm))
          refine ⟨fun i d e => ?_, w1, w2, stay nw1 t1, stay nw2 t2, ?_⟩
          · obtain ⟨dx, dy, ex, ey, rfl⟩ := zipIt_get e
            obtain ⟨x', gx', zx⟩ := z1.get ex
            obtain ⟨y', gy', zy⟩ := z2.get ey
            refine ⟨⟨w1, w2, x', y', stay nw1 t1, stay nw2 t2, gx', gy'⟩, fun z H' hz => ?_⟩
            obtain ⟨T, x2, y2, rfl, hT, rfl, f1, f2⟩ := hz
            have e3 := f1 _ (stay nw1 t1)
            have e4 := f2 _ (stay nw2 t2)
            rw [gx'] at e3; cases e3
            rw [gy'] at e4; cases e4
            have k := kpx r1 gx x
            exact pairNew r' hT (gx.K ▸ zx.keep k) (gx.K ▸ zy.keep k)
          · rw [z1.len, z2.len]
            show _ ≤ (zipIt xs ys).length ∨ _ ≤ (zipIt xs ys).length
            unfold zipIt
            rw [List.length_zipWith]
            omega
    · exact ev1.elim⟩
end
end DL
end
section
namespace DL
open PySem PySem.Spec PyProof.Rows L2

/-! ### a def that hands back a new object that may change -/
def finM (k : Nat) (d : D) (S : Sto) : Out D := match d with
  | .ref n => if k ≤ n then (match S[n]? with
    | some ob => if (S.take k).all pdOb = true ∧ pdOb ob = true then .ok (.ref k) (S.take k ++ [ob]) else .stuck
    | none => .stuck) else .stuck
  | _ => .stuck
def runFM (n : Nat) (m : DM Fl) : DF := fun ds S => match m (startD n ds) S with
  | .ok (.ret d) S' => finM S.length d S'
  | .ok _ _ => .stuck
  | .exc e _ S' => if (S'.take S.length).all pdOb = true ∧ (e.fs.all fun p => noRef p.2) = true then .exc e [] (S'.take S.length) else .stuck
  | .stuck => .stuck
def callFM (n : Nat) (f : DF) (ds : List D) : DM D := fun σ S => match obsAt S (refsOf ds) with
  | some os => if ds.length = n ∧ (refsOf ds).Nodup ∧ os.all pdOb = true then (match f (renum 0 ds) os with
    | .ok (.ref k) S' => (match S'[os.length]? with
      | some ob => if k = os.length ∧ S'.length = os.length + 1 ∧ (S'.take os.length).all pdOb = true ∧ pdOb ob = true then .ok (.ref S.length) (putAll S (refsOf ds) (S'.take os.length) ++ [ob]) else .stuck
      | none => .stuck)
    | .ok _ _ => .stuck
    | .exc e _ S' => if S'.length = os.length ∧ S'.all pdOb = true ∧ (e.fs.all fun p => noRef p.2) = true then .exc e σ (putAll S (refsOf ds) S') else .stuck
    | .stuck => .stuck) else .stuck
  | none => .stuck
section
variable {g g' : G} {E : WX} {L L' : List Addr} {H H' : Hp} {S S' : Sto} {σd : Sl} {σ : L2.St} {v : V} {d : D}
theorem RepS.trimM (r : RepS g L S H) {n : Nat} {a : Addr} {ob : Ob} (ha : L[n]? = some a) (hb : S[n]? = some ob) (hn : g.as.length ≤ n) (p1 : (S.take g.as.length).all pdOb = true) (p2 : pdOb ob = true) :
    a ∉ g.as ∧ RepS g (g.as ++ [a]) (S.take g.as.length ++ [ob]) H := by
  obtain ⟨t, ht⟩ := r.pre
  have hna : a ∉ g.as := fun hm => by
    obtain ⟨j, hj, ej⟩ := List.mem_iff_getElem.mp hm
    have e1 : L[j]? = some a := by rw [← ht, List.getElem?_append_left hj, List.getElem?_eq_getElem hj, ej]
    have e2 := List.getElem?_eq_some_iff.mp e1
    have e3 := List.getElem?_eq_some_iff.mp ha
    have := (List.getElem_inj r.nd).mp (e2.2.trans e3.2.symm)
    omega
  have haL : a ∈ L := List.mem_of_getElem? ha
  have sub : ∀ b, b ∈ g.as ++ [a] → b ∈ L := fun b hb => by
    rcases List.mem_append.mp hb with h | h
    · exact mem_pre r.pre h
    · rw [show b = a by simpa using h]; exact haL
  have wsub : ∀ b, g.wr (g.as ++ [a]) b → g.wr L b := fun b w => w.imp id (sub b)
  refine ⟨hna, ?_, List.prefix_append _ _, ?_, fun b hb na => r.fresh b (sub b hb) na, fun b hb na => r.own b (sub b hb) na, r.keep, r.amb, r.asW⟩
  · rw [List.nodup_append]
    refine ⟨r.nd.sublist r.pre.sublist, by simp, fun b hb c hc e => ?_⟩
    have e2 : c = a := by simpa using hc
    subst e2; subst e
    exact hna hb
  · have h := Paired.takeL g.as.length r.obs
    have e : L.take g.as.length = g.as := by rw [← ht]; simp
    rw [e] at h
    obtain ⟨a2, ea, od⟩ := Paired.get r.obs hb
    rw [ha] at ea
    cases ea
    exact Paired.app (Paired.memL h fun ob a ho _ q => q.move rfl rfl wsub (List.all_eq_true.mp p1 _ ho)) (.cons (od.move rfl rfl wsub p2) .nil)
/-- behind a call that made an object -/
theorem call_backM (r : RepS g L S H) {idx : List Nat} {os : List Ob} {S2 : Sto} {ob : Ob} (nd : idx.Nodup) (e : obsAt S idx = some os) (h2 : S2.length = os.length) (n : S2.all pdOb = true) (nb : pdOb ob = true)
    {L2 : List Addr} (x : Ext (g.call L H idx) (addrsAt L idx) H L2 H') (r2 : RepS (g.call L H idx) L2 (S2 ++ [ob]) H') : ∃ a, L2 = addrsAt L idx ++ [a] ∧ Ext g L H (L ++ [a]) H' ∧ RepS g (L ++ [a]) (putAll S idx S2 ++ [ob]) H' := by
  have hl : ∀ i ∈ idx, i < L.length := fun i hi => by rw [← Paired.len r.obs]; exact obsAt_lt e i hi
  have hS2 : S2.length = (addrsAt L idx).length := by rw [h2, obsAt_len e, addrsAt_len]
  obtain ⟨t, rfl⟩ := x.pre
  have ht : t.length = 1 := by
    have := Paired.len r2.obs
    rw [List.length_append, List.length_append, List.length_singleton] at this
    omega
  obtain ⟨a, rfl⟩ := List.length_eq_one_iff.mp ht
  have sub : ∀ a, a ∈ addrsAt L idx → a ∈ L := fun a h => let ⟨_, _, q⟩ := addrsAt_mem h hl; List.mem_of_getElem? q
  have haN : a ∉ addrsAt L idx := fun h => by
    have := r2.nd
    rw [List.nodup_append] at this
    exact this.2.2 a h a (by simp) rfl
  have ha0 : H a = none := x.new a (by simp) haN
  have hfr : ¬ g.wr L a := r.free ha0
  have haL : a ∉ L := fun h => hfr (.inr h)
  have x' : Ext g L H (L ++ [a]) H' := ⟨List.prefix_append _ _, fun b hb nb => by
    rcases List.mem_append.mp hb with h | h
    · exact absurd h nb
    · rw [show b = a by simpa using h]; exact ha0, fun b o q na => x.keep b o q fun z => na (sub b z), x.there⟩
  have wsub : ∀ b, g.wr (L ++ [a]) b → (g.call L H idx).wr (addrsAt L idx ++ [a]) b := fun b w => by
    rcases w with w | w
    · exact .inl (.inl w)
    · rcases List.mem_append.mp w with w | w
      · exact .inl (.inr w)
      · exact .inr (List.mem_append.mpr (.inr w))
  refine ⟨a, rfl, x', ?_, r.pre.trans (List.prefix_append _ _), ?_, fun b hb na => ?_, fun b hb na => ?_, fun b o q na => ?_, fun b w => r2.amb b (.inl w), r.asW⟩
  · rw [List.nodup_append]
    refine ⟨r.nd, by simp, fun b hb c hc e => ?_⟩
    have e2 : c = a := by simpa using hc
    subst e2; subst e
    exact haL hb
  · refine Paired.app (paired_of (by rw [putAll_length]; exact Paired.len r.obs) fun i ob' b e1 e2 => ?_) (.cons ?_ .nil)
    · by_cases hi : i ∈ idx
      · obtain ⟨j, hj, ej⟩ := List.mem_iff_getElem.mp hi
        have ej' : idx[j]? = some i := by rw [List.getElem?_eq_getElem hj, ej]
        have hjS : j < S2.length := by rw [h2, obsAt_len e]; exact hj
        have eo : S2[j]? = some S2[j] := List.getElem?_eq_getElem hjS
        have eo' : (S2 ++ [ob])[j]? = some S2[j] := by rw [List.getElem?_append_left hjS]; exact eo
        have := putAll_in (S := S) nd (fun i hi => obsAt_lt e i hi) ej' eo
        rw [this] at e1
        obtain ⟨a2, ea, od⟩ := Paired.get r2.obs eo'
        have ea2 := addrsAt_get (L := L) ej'
        rw [List.getElem?_append_left (List.getElem?_eq_some_iff.mp ea2).1, ea2, getD_of e2] at ea
        cases ea
        cases e1
        exact od.move (g := g.call L H idx) (g' := g) rfl rfl wsub (List.all_eq_true.mp n _ (List.getElem_mem hjS))
      · rw [putAll_out hi] at e1
        obtain ⟨a2, ea, od⟩ := Paired.get r.obs e1
        rw [e2] at ea
        cases ea
        refine od.ext r x' fun o q => x.keep b o q fun z => ?_
        obtain ⟨j, hj, q2⟩ := addrsAt_mem z hl
        have a1 := List.getElem?_eq_some_iff.mp e2
        have a3 := List.getElem?_eq_some_iff.mp q2
        have := (List.getElem_inj r.nd).mp (a1.2.trans a3.2.symm)
        subst this
        exact hi hj
    · have e1 : (S2 ++ [ob])[S2.length]? = some ob := by simp
      obtain ⟨a2, ea, od⟩ := Paired.get r2.obs e1
      rw [hS2] at ea
      simp at ea
      subst ea
      exact od.move (g := g.call L H idx) (g' := g) rfl rfl wsub nb
  · rcases List.mem_append.mp hb with h | h
    · exact r.fresh b h na
    · rw [show b = a by simpa using h]
      cases q : g.H0 a with
      | none => rfl
      | some o => exact (r.h0 ha0 o q).elim
  · rcases List.mem_append.mp hb with h | h
    · exact r.own b h na
    · rw [show b = a by simpa using h]; exact fun w => hfr (.inl w)
  · refine x.keep b o (r.keep b o q na) fun z => ?_
    have := r.fresh b (sub b z) na
    rw [q] at this; cases this
theorem Fun.dlM {P : Program} {w : World} {K : PySem.W.Frag} {mg : Str → Option Value} {base : Heap} {x qual : Str} {st : Stmt} {f : Addr} {fd : FuncData} {N ps : List Str} {k : Nat} {m : DM Fl} (F : Fun K x qual st f fd) (Sc : FnScope N ps (defScope st))
    (hb : ∀ (cdv : Value) (A : Around) (outer : List Env) (s : Shared) (H : Hp) (E : XK) (W : Addr → Prop) (as : List Addr), RoomG k (A.deeper (envOfC qual (defScope st) s.heap.objs.size f cdv)) →
      PSs (cxOf (L2.CX P w) P w K mg base N qual (defScope st) f cdv A outer s H E) (defBody st) (TSt ⟨K, mg, W, H, as⟩ (fun c d _ H => E c d H) m)) :
    FnG P w K mg base (k + 1) f fd ps (spM K mg ps.length (runFM N.length m)) := by
  refine Fun.okG F Sc (fun vs H Q E h => h.1) (fun cdv A outer s H vs Q E hr h => ?_)
  obtain ⟨hl, W, as, ds, S, rp, dn, ev⟩ := h
  refine ⟨_, hb cdv A outer s H E W as hr, as, startD N.length ds, S, rp, startD_sl dn, ?_⟩
  have hS : S.length = as.length := Paired.len rp.obs
  unfold runFM at ev
  cases em : m (startD N.length ds) S with
  | ok fl S' =>
    rw [em] at ev
    cases fl with
    | ret d =>
      intro L' H' x r v dn'
      show Q v H'
      unfold finM at ev
      dsimp only at ev
      split at ev
      · rename_i n
        split at ev
        · rename_i hn
          split at ev
          · rename_i ob hob
            split at ev
            · rename_i hp
              rw [hS] at ev hp hn
              cases dn' with
              | @ref _ a ha =>
                obtain ⟨hna, rt⟩ := r.trimM (g := ⟨K, mg, W, H, as⟩) ha hob hn hp.1 hp.2
                refine ev (as ++ [a]) H' ⟨List.prefix_append _ _, fun b hb nb => ?_, x.keep, x.there⟩ rt (.ref a) (.ref (by simp))
                rcases List.mem_append.mp hb with h | h
                · exact absurd h nb
                · rw [show b = a by simpa using h]; exact x.new a (List.mem_of_getElem? ha) hna
            · exact ev.elim
          · exact ev.elim
        · exact ev.elim
      · exact ev.elim
    | next σ => exact ev.elim
    | brk σ => exact ev.elim
    | cont σ => exact ev.elim
  | exc e σ S' =>
    rw [em] at ev
    dsimp only at ev
    split at ev
    · rename_i hp
      rw [hS] at ev hp
      intro L' H' c x σ y r sl ex
      exact ev as H' c x [] y.trim (r.trim hp.1) (fun i d z => by simp at z) (ex.move rfl rfl (fun b w => w.imp id fun z => mem_pre r.pre z) hp.2)
    · exact ev.elim
  | stuck => rw [em] at ev; exact ev.elim
variable {X : Cx} {ml : DM (List D)} {es : List Expr} {e : Expr} {p pos : Pos} {x : Str} {k n : Nat} {f : Addr} {fd : FuncData} {ps : List Str} {fm : DF}
theorem call_readsM (hK : X.K = g.K) (hmg : X.mg = g.mg) {Q : VK} (h : T g E (mBind ml (callFM n fm)) σ H Q) : TL g E ml σ H (fun vs H1 => spM X.K X.mg n fm vs H1 Q (WE E σ)) := by
  obtain ⟨L, σd, S, rp, sl, ev⟩ := h
  refine ⟨L, σd, S, rp, sl, ev.step fun ds S1 L1 H1 x1 r1 ev1 vs dn => ?_⟩
  show spM X.K X.mg n fm vs H1 Q (WE E σ)
  unfold callFM at ev1
  split at ev1
  · rename_i os eo
    split at ev1
    · rename_i hc
      obtain ⟨hn, nd, hp⟩ := hc
      have hl : ∀ i ∈ refsOf ds, i < L1.length := fun i hi => by rw [← Paired.len r1.obs]; exact obsAt_lt eo i hi
      refine ⟨by rw [← Paired.len dn]; exact hn, g.wr L1, addrsAt L1 (refsOf ds), renum 0 ds, os, ?_, ?_, ?_⟩
      · rw [hK, hmg]; exact call_rep r1 nd eo hp
      · rw [hK, hmg]; exact call_dens r1 hl 0 rfl dn
      · rw [hK, hmg]
        show Ev (g.call L1 H1 (refsOf ds)) _ _ _ _ _
        split at ev1
        · rename_i k S2 ef
          split at ev1
          · rename_i ob hob
            split at ev1
            · rename_i hd
              obtain ⟨rfl, hd2, hd3, hd4⟩ := hd
              rw [ef]
              intro L' H' x r' v dn'
              have hS2 : S2 = S2.take os.length ++ [ob] := by
                have := List.getElem?_eq_some_iff.mp hob
                obtain ⟨hlt, hob'⟩ := this
                conv => lhs; rw [← List.take_append_drop os.length S2]
                congr 1
                rw [List.drop_eq_getElem_cons hlt, hob', List.drop_eq_nil_of_le (by omega)]
              rw [hS2] at r'
              obtain ⟨a, rfl, x2, r2⟩ := call_backM r1 nd eo (by rw [List.length_take]; omega) hd3 hd4 x r'
              cases dn' with
              | @ref _ a' ha =>
                have hal : os.length = (addrsAt L1 (refsOf ds)).length := by rw [obsAt_len eo, addrsAt_len]
                rw [hal] at ha
                simp at ha
                subst ha
                exact ev1 (L1 ++ [a]) H' x2 r2 (.ref a) (.ref (by rw [Paired.len r1.obs]; simp))
            · exact ev1.elim
          · exact ev1.elim
        · exact ev1.elim
        · rename_i ex _ S2 ef
          split at ev1
          · rename_i hd
            rw [ef]
            intro L' H' c y σ' x r' _ dn'
            obtain ⟨rfl, x2, r2⟩ := call_back r1 nd eo hd.1 hd.2.1 x r'
            exact ev1 L1 H' c y σ x2 r2 ((sl.ext rp x1).ext r1 x2) (dn'.move (g := g.call L1 H1 (refsOf ds)) (g' := g) rfl rfl (fun b w => (call_wr (g := g) (L := L1) (H := H1) (idx := refsOf ds) hl).mpr w) hd.2.2)
          · exact ev1.elim
        · exact ev1.elim
    · exact ev1.elim
  · exact ev1.elim
theorem px_callM (F : FnG X.prog X.w X.K X.mg X.base k f fd ps (spM X.K X.mg n fm)) (hr : RoomG k X.A) (hg : Gl X x) (hm : X.mg x = some (.ref f)) (hk : PySem.W.keepIn X.K (.ref f) = true) (hb : Binds X.K fd ps [])
    (hK : X.K = g.K) (hmg : X.mg = g.mg) (tk : Takes X E) (ha : PA X (e :: es) (TL g E ml)) (hdb : (x == ("__debug__" : Str)) = false := by decide) (he : starEach (e :: es) X.env = (false, eval e X.env) :: starEach es X.env := by rfl)
    (hpl : (backTo pos (starEach es X.env)).any (·.1) = false := by rfl) : PE X (.Call (.Name x p) (e :: es) [] pos) (T g E (mBind ml (callFM n fm))) :=
  PE.imp (pe_callG (E := fun σ => WE E σ) F hr hg hm hk hb (fun σ => passAt tk σ) ha hdb he hpl) fun σ H Q h => call_readsM hK hmg h
end
end DL
end
section
namespace DL
open PySem PySem.Spec PyProof.Rows L2
section
variable {X : Cx} {g : G} {E : WX} {a b e : Expr} {es : List Expr} {m : DM D} {ml : DM (List D)} {op : CmpOp} {pos p : Pos}
theorem pe_cmpC (h : PC X op a b (T g E m)) (h1 : behindInMarks op b = false := by rfl) : PE X (.Compare a [op] [b] pos) (T g E m) := pe_cmp h h1
theorem pt_cmpC (h : PC X op a b (T g E m)) (h1 : behindInMarks op b = false := by rfl) : PT X (.Compare a [op] [b] pos) (TB g E (eTest m)) :=
  PT.imp (pt_cmp h h1) fun σ H Q ⟨L, σd, S, rp, sl, ev⟩ => ⟨L, σd, S, rp, sl, ev.step fun d S' L' H' x r' ev' v dn => asB_ok r' dn ev'⟩
theorem units65 {k : Nat} {A : Around} (r : Room k A) : A.units + 65 < cLine := by have := r.un; omega
theorem units1 {k : Nat} {A : Around} (r : Room k A) : A.units + 1 < cLine := by have := r.un; omega
end
/-- a def of the text, as its callers know it -/
structure Cal (P : Program) (w : World) (K : PySem.W.Frag) (mg : Str → Option Value) (base : Heap) (k : Nat) (x : Str) (ps : List Str) (f : DF) : Prop where
  ex : ∃ (a : Addr) (fd : FuncData), FnG P w K mg base k a fd ps (spM K mg ps.length f) ∧ mg x = some (.ref a) ∧ PySem.W.keepIn K (.ref a) = true ∧ Binds K fd ps []
theorem Cal.mono {P : Program} {w : World} {K : PySem.W.Frag} {mg : Str → Option Value} {base : Heap} {j k : Nat} {x : Str} {ps : List Str} {f : DF} (c : Cal P w K mg base j x ps f) (h : j ≤ k := by decide) : Cal P w K mg base k x ps f :=
  let ⟨a, fd, F, r⟩ := c.ex
  ⟨a, fd, F.mono h, r⟩
theorem Cal.of {P : Program} {w : World} {K : PySem.W.Frag} {mg : Str → Option Value} {base : Heap} {k : Nat} {x : Str} {ps : List Str} {f : DF} {a : Addr} {fd : FuncData} {st : Stmt} {q : Str} (F : FnG P w K mg base k a fd ps (spM K mg ps.length f)) (hm : mg x = some (.ref a)) (Fu : Fun K x q st a fd) (hb : Binds K fd ps []) : Cal P w K mg base k x ps f :=
  ⟨a, fd, F, hm, Fu.kp, hb⟩
section
variable {X : Cx} {g : G} {E : WX} {e : Expr} {es : List Expr} {ml : DM (List D)} {pos p : Pos} {k : Nat} {x : Str} {ps : List Str} {fm : DF}
theorem px_callC {n : Nat} (C : Cal X.prog X.w X.K X.mg X.base k x ps fm) (hr : RoomG k X.A) (hg : Gl X x) (hK : X.K = g.K) (hmg : X.mg = g.mg) (tk : Takes X E) (ha : PA X (e :: es) (TL g E ml)) (hdb : (x == ("__debug__" : Str)) = false := by decide) (he : starEach (e :: es) X.env = (false, eval e X.env) :: starEach es X.env := by rfl)
    (hpl : (backTo pos (starEach es X.env)).any (·.1) = false := by rfl) (hn : ps.length = n := by rfl) : PE X (.Call (.Name x p) (e :: es) [] pos) (T g E (mBind ml (callF n fm))) := by
  subst hn
  obtain ⟨a, fd, F, hm, hk, hb⟩ := C.ex
  exact px_call F hr hg hm hk hb hK hmg tk ha hdb he hpl
theorem px_callCM {n : Nat} (C : Cal X.prog X.w X.K X.mg X.base k x ps fm) (hr : RoomG k X.A) (hg : Gl X x) (hK : X.K = g.K) (hmg : X.mg = g.mg) (tk : Takes X E) (ha : PA X (e :: es) (TL g E ml)) (hdb : (x == ("__debug__" : Str)) = false := by decide) (he : starEach (e :: es) X.env = (false, eval e X.env) :: starEach es X.env := by rfl)
    (hpl : (backTo pos (starEach es X.env)).any (·.1) = false := by rfl) (hn : ps.length = n := by rfl) : PE X (.Call (.Name x p) (e :: es) [] pos) (T g E (mBind ml (callFM n fm))) := by
  subst hn
  obtain ⟨a, fd, F, hm, hk, hb⟩ := C.ex
  exact px_callM F hr hg hm hk hb hK hmg tk ha hdb he hpl
end
end DL
end
section
namespace DL
open PySem PySem.Spec PyProof.Rows L2
/-- the law's promise, whatever the module's names -/
def spE (K : PySem.W.Frag) (f : DF) : Sp := fun vs H Q E => vs.length = 1 ∧ ∀ mg, spM K mg 1 f vs H Q E
theorem FnG.toE {P : Program} {w : World} {K : PySem.W.Frag} {mg : Str → Option Value} {base : Heap} {k : Nat} {a : Addr} {fd : FuncData} {x : Str} {f : DF} (F : FnG P w K mg base k a fd [x] (spM K mg 1 f)) : FnG P w K mg base k a fd [x] (spE K f) :=
  ⟨fun vs H Q E h => h.1, fun A outer s H args us vs Q E hr e0 hb r h => F.run A outer s H args us vs Q E hr e0 hb r (h.2 mg)⟩
theorem noX {P : Program} {w : World} {H : Hp} {s : Shared} {e : Value} {s' : Shared} (z : L2.CX P w [] H s (fun _ _ _ => False) e s') : False := by
  obtain ⟨_, _, _, _, _, _, _, _, _, _, _, _, h⟩ := z
  exact h
theorem spE_law {K : PySem.W.Frag} {f : DF} (hlaw : ∀ ns : List Int, ns.length ≤ 63 → f [.lst (ns.map .int)] [] = .ok (.bl true) []) {H : Hp} {a : Addr} {ns : List Int} (hl : ns.length ≤ 63) (hS : Rd H a (.lst (ns.map V.int))) : spE K f [.ref a] H (fun v _ => v = .bl true) fun _ _ _ => False := by
  refine ⟨rfl, fun mg => ⟨rfl, fun _ => False, [], [.lst (ns.map .int)], [], ?_, ?_, ?_⟩⟩
  · exact ⟨List.nodup_nil, List.prefix_refl _, .nil, fun _ h => (nomatch h), fun _ h => (nomatch h), fun _ _ e _ => e, fun _ h => False.elim h, fun _ h => (nomatch h)⟩
  · have z : ∀ ns : List Int, DzAll K (fun a => False ∨ a ∈ ([] : List Addr)) H (ns.map V.int) (ns.map .int) := fun ns => by
      induction ns with
      | nil => exact .nil
      | cons n r ih => exact .cons (.int n) ih
    exact .cons (.pd (.lst (fun w => w.elim id fun h => (nomatch h)) hS (z ns))) .nil
  · rw [hlaw ns hl]
    intro L' H' x r v dn
    exact den_bl dn
end DL
end
section
namespace DL
open PySem PySem.Spec PyProof.Rows L2
open Classical
section
variable {g g' : G} {E : WX} {L L' L0 : List Addr} {H H' H0 : Hp} {S S' : Sto} {σd : Sl} {σ : L2.St} {v : V} {d : D}
variable {X : Cx} {tg a b c e : Expr} {me ma mb : DM D} {ml : DM (List D)} {pos p p2 tpos px py pz pt : Pos}
/-! ### a, b = x, y; a, b, c = x, y, z: plain local names -/
def sPar (i j : Nat) (ml : DM (List D)) : DM Fl := fun σ S => (ml σ S).bind fun ds S' => match ds with
  | [d, e] => .ok (.next ((σ.set i (some d)).set j (some e))) S'
  | _ => .stuck
def sPar3 (i j l : Nat) (ml : DM (List D)) : DM Fl := fun σ S => (ml σ S).bind fun ds S' => match ds with
  | [d, e, f] => .ok (.next (((σ.set i (some d)).set j (some e)).set l (some f))) S'
  | _ => .stuck
theorem qs_par {i j : Nat} {x y : Str} {kt k2 pt2} (hc : X.calm = true) (hN : X.N.Nodup) (hi : X.N[i]? = some x) (hj : X.N[j]? = some y) (hij : i ≠ j)
    (hx : X.env.scope.names.lookup x = some .local) (hy : X.env.scope.names.lookup y = some .local) (ha : PA X [a, b] (TL g E ml))
    (hw : swappedStores [.Tuple [.Name x px, .Name y py] kt pt] (.Tuple [a, b] k2 pt2) X.env = pure (some [x, y]))
    (hs : swapsWithSole [.Tuple [.Name x px, .Name y py] kt pt] (.Tuple [a, b] k2 pt2) pos.line X.env = pure false := by rfl) :
    PS X (.Assign [.Tuple [.Name x px, .Name y py] kt pt] (.Tuple [a, b] k2 pt2) pos) (TSt g E (sPar i j ml)) :=
  PS.imp (PS.len (ps_par hc hN hi hj hij hx hy ha hw hs)) fun D σ H ⟨L, σd, S, rp, sl, ev⟩ hl => ⟨L, σd, S, rp, sl, (Ev.bind ev).imp fun ds S' L' H' x r' ev' vs dn => by
    have l1 : i < σ.length := by rw [hl]; exact (List.getElem?_eq_some_iff.mp hi).1
    have l2 : j < σ.length := by rw [hl]; exact (List.getElem?_eq_some_iff.mp hj).1
    split at ev'
    · cases dn with
      | cons d1 dn =>
        cases dn with
        | cons d2 dn =>
          cases dn
          exact ⟨_, _, rfl, ev'.ok r' _ (((sl.ext rp x).put d1 i l1).put d2 j (by rw [List.length_set]; exact l2))⟩
    · exact ev'.elim⟩
theorem qs_par3 {i j l : Nat} {x y z : Str} {kt k2 pt2} (hc : X.calm = true) (hN : X.N.Nodup) (hi : X.N[i]? = some x) (hj : X.N[j]? = some y) (hl : X.N[l]? = some z) (hij : i ≠ j) (hil : i ≠ l) (hjl : j ≠ l)
    (hx : X.env.scope.names.lookup x = some .local) (hy : X.env.scope.names.lookup y = some .local) (hz : X.env.scope.names.lookup z = some .local) (ha : PA X [a, b, c] (TL g E ml))
    (hw : swappedStores [.Tuple [.Name x px, .Name y py, .Name z pz] kt pt] (.Tuple [a, b, c] k2 pt2) X.env = pure (some [x, y, z]))
    (hs : swapsWithSole [.Tuple [.Name x px, .Name y py, .Name z pz] kt pt] (.Tuple [a, b, c] k2 pt2) pos.line X.env = pure false := by rfl) :
    PS X (.Assign [.Tuple [.Name x px, .Name y py, .Name z pz] kt pt] (.Tuple [a, b, c] k2 pt2) pos) (TSt g E (sPar3 i j l ml)) :=
  PS.imp (PS.len (ps_par3 hc hN hi hj hl hij hil hjl hx hy hz ha hw hs)) fun D σ H ⟨L, σd, S, rp, sl, ev⟩ hn => ⟨L, σd, S, rp, sl, (Ev.bind ev).imp fun ds S' L' H' x r' ev' vs dn => by
    have l1 : i < σ.length := by rw [hn]; exact (List.getElem?_eq_some_iff.mp hi).1
    have l2 : j < σ.length := by rw [hn]; exact (List.getElem?_eq_some_iff.mp hj).1
    have l3 : l < σ.length := by rw [hn]; exact (List.getElem?_eq_some_iff.mp hl).1
    split at ev'
    · cases dn with
      | cons d1 dn =>
        cases dn with
        | cons d2 dn =>
          cases dn with
          | cons d3 dn =>
            cases dn
            exact ⟨_, _, _, rfl, ev'.ok r' _ ((((sl.ext rp x).put d1 i l1).put d2 j (by rw [List.length_set]; exact l2)).put d3 l (by rw [List.length_set, List.length_set]; exact l3))⟩
    · exact ev'.elim⟩
/-! ### list(range(n)) that changes -/
noncomputable def eRgM1 (m : DM D) : DM D := mBind m fun d => fun _ S => match d with
  | .pd (.int n) => if RgOk 0 n then .ok (.ref S.length) (S ++ [.lst ((rgD 0 n).map D.pd)]) else .stuck
  | _ => .stuck
theorem rg_dens (a b : Int) : Dens g L H ((rgD a b).map D.pd) (rgV a b) := by
  unfold rgV rgD
  generalize List.range (b - a).toNat = l
  induction l with
  | nil => exact .nil
  | cons x l ih => exact .cons (.pd (.int _)) ih
theorem px_lstRgM1 (hc : X.calm = true) (hg : Gl X "list") (hm : X.mg "list" = none) (hg2 : Gl X "range") (hm2 : X.mg "range" = none) (ha : PE X a (T g E ma)) {p pos p2 pos2 : Pos} (na : starEach [a] X.env = (false, eval a X.env) :: starEach [] X.env := by rfl)
    (nb : starEach [.Call (.Name "range" p2) [a] [] pos2] X.env = (false, eval (.Call (.Name "range" p2) [a] [] pos2) X.env) :: starEach [] X.env := by rfl) :
    PE X (.Call (.Name "list" p) [.Call (.Name "range" p2) [a] [] pos2] [] pos) (T g E (eRgM1 ma)) :=
  PE.imp (pe_listRg hc hg hm (prg_1 hg2 hm2 ha na) nb) fun σ H Q ⟨L, σd, S, rp, sl, ev⟩ => ⟨L, σd, S, rp, sl, ev.step fun d S1 L1 H1 x1 r1 ev1 v dn => by
    split at ev1
    · rename_i n
      cases den_int dn
      split at ev1
      · rename_i hr
        exact ⟨n, rfl, hr, fin_lstM r1 ev1 (rg_dens 0 n)⟩
      · exact ev1.elim
    · exact ev1.elim⟩
end
end DL
end
section
/-! DL24: enumerate of a tuple -/
namespace DL
open PySem PySem.Spec PyProof.Rows L2
open Sem (wp)
open AutoSeq1 (wpAny_loadPart')
theorem meets_enumT (l : Addr) (items : Array Value) (n : Nat) (dct : Option Addr) (sl : Array (Option Value)) :
    Meets (Builtin.«enumerate.__new__» ⟨[.type "enumerate", .ref l], []⟩) (fun _ R s => s.heap.get? l = some { cls := .type "tuple", dict := dct, data := .seq items n, slots := sl } ∧
      R (.ok (.ret (.ref (s.heap.push { cls := .type "tuple_iterator", data := .fields #[.ref l, .int 0 0] }).objs.size)))
        { s with heap := (s.heap.push { cls := .type "tuple_iterator", data := .fields #[.ref l, .int 0 0] }).push { cls := .type "enumerate", data := .fields #[.none, .bool false, .ref s.heap.objs.size, rawInt 0, .none, .none] } }) :=
  .of_wp fun prog w A R s h => by
    obtain ⟨hp, g, d, tk, os⟩ := s; obtain ⟨hl, h⟩ := h
    have hsub := sub_enumerate
    have hL : Heap.IsTuple (Shared.heap ⟨hp, g, d, tk, os⟩) l items := ⟨_, hl, rfl, n, rfl⟩
    wp_walk using wpAny_loadPart' hl
    refine wpAny_stack_any fun st => wpAny_pure ?_
    split
    · rename_i c _ _ _ _ _
      cases (c == Value.type "enumerate")
      · wp_walk using wpAny_loadPart' hl, wpAny_pyIter_tuple hL
        exact ⟨_, rfl, h⟩
      · wp_walk using wpAny_loadPart' hl, wpAny_pyIter_tuple hL
        exact ⟨_, rfl, h⟩
    · wp_walk using wpAny_loadPart' hl, wpAny_pyIter_tuple hL
      exact ⟨_, rfl, h⟩
theorem call_enumT {prog : Program} {w : World} {A : Around} {E : Value → Shared → Prop} {s : Shared} {l : Addr} {items : Array Value} {Q : Value → Shared → Prop} (hL : s.heap.IsTuple l items)
    (h : ∀ h', IsEnum h' (s.heap.objs.size + 1) s.heap.objs.size 0 .none → h'.IsTupleIter s.heap.objs.size l 0 → h'.objs.size = s.heap.objs.size + 2 →
      (∀ b o, s.heap.get? b = some o → h'.get? b = some o) → Q (.ref (s.heap.objs.size + 1)) { s with heap := h' }) :
    wpAny (model prog w) A (call (.type "enumerate") [.ref l]) Q E s := by
  obtain ⟨⟨c, dct, dt, sl⟩, hl, hc, n, hd⟩ := hL
  replace hc : c = .type "tuple" := hc
  replace hd : dt = .seq items n := hd
  subst hc hd
  refine callType_new F.called_enumerate (by decide) (F.typeCall_enumerate_1 _) (F.newCall_enumerate_1 _) (fun obj => F.args_object_init_2 obj _) F.entry_enumerate_new
    (meets_enumT l items n dct sl) ⟨hl, ?_⟩
  have hz : (s.heap.push { cls := .type "tuple_iterator", data := .fields #[.ref l, .int 0 0] }).objs.size = s.heap.objs.size + 1 := Heap.size_push ..
  show _ ∧ _
  rw [hz]
  have he : IsEnum ((s.heap.push { cls := .type "tuple_iterator", data := .fields #[.ref l, .int 0 0] }).push
      { cls := .type "enumerate", data := .fields #[.none, .bool false, .ref s.heap.objs.size, rawInt 0, .none, .none] }) (s.heap.objs.size + 1) s.heap.objs.size 0 .none := by
    have := Heap.get?_push_size (s.heap.push { cls := .type "tuple_iterator", data := .fields #[.ref l, .int 0 0] })
      (o := { cls := .type "enumerate", data := .fields #[.none, .bool false, .ref s.heap.objs.size, rawInt 0, .none, .none] }) rfl
    rw [hz] at this; exact this
  refine ⟨⟨_, he, rfl⟩, h _ he ⟨_, Heap.get?_push_of_some _ (Heap.get?_push_size _ rfl), rfl, rfl⟩ (by rw [Heap.size_push, hz]) fun b o x => Heap.get?_push_of_some _ (Heap.get?_push_of_some _ x)⟩
/-- the tuple at a, each item in a new pair behind its number -/
def IteT (K : PySem.W.Frag) (a : Addr) : It :=
  ⟨fun i H => ∃ (xs : List V) (x : V), SqT K H a xs ∧ xs[i]? = some x, fun i H v H' => ∃ T x, v = .ref T ∧ H T = none ∧ H' = upd H T (.tup [.int (i : Nat), x]) ∧ ∀ xs, SqT K H a xs → xs[i]? = some x, fun i H => ∃ xs : List V, SqT K H a xs ∧ xs.length ≤ i⟩
theorem pyNext_enumT_end {prog : Program} {w : World} {A : Around} {E : Value → Shared → Prop} {s : Shared} {e it t : Addr} {i : Nat} {items : Array Value} {old : Value} {Q : Option Value → Shared → Prop} (hh : A.handled = none)
    (he : IsEnum s.heap e it i old) (hit : s.heap.IsTupleIter it t i) (hl : s.heap.IsTuple t items) (hx : items[i]? = none)
    (hQ : ∀ h', Heap.ExtBut it s.heap h' → Q none { s with heap := h' }) : wpAny (model prog w) A (pyNext (.ref e)) Q E s := by
  have hTy : s.TypeIs (.ref e) "enumerate" := ⟨_, he, rfl⟩
  unfold pyNext
  refine wpAny_bind (wpAny_attempt (wpAny_callSpecial?_slot (name := Str.ofString "__next__") hTy F.slot_enumerate_next
    (wpAny_call_entry F.slot_enumerate_next hTy F.entry_enumerate_next ?_ (F.args_enumerate_next_1 _))))
  show wpAny _ _ (field (.ref e) 2 >>= _) _ _ _
  refine wpAny_bind (wpAny_field he rfl (x := .ref it) rfl ?_)
  refine wpAny_bind (wpAny_nextOf_tuple_end (A := A.in1) (show A.in1.handled = none from hh) hit hl hx fun h' x he' hx' => ?_)
  obtain ⟨o, ho, hc⟩ := hx'
  refine wpAny_bind (wpAny_isInstance (T := "StopIteration") (b := true) ⟨o, ho, hc⟩ isSubtype_stop ?_)
  exact wpAny_pure (hQ _ he')
theorem turn_enumT {P : Program} {w : World} {K : PySem.W.Frag} {elts : List Expr} {kk : Nat} {tpos : Pos} (a e it : Addr) :
    Turn P w K (.Tuple elts kk tpos) (IteT K a) [e, it] e (fun i h => (∃ old, IsEnum h e it ((i : Nat) : Int) old) ∧ h.IsTupleIter it a i ∧ e ≠ it ∧ a ≠ it ∧ e ≠ a) where
  mem := by simp
  obj := fun i h st b hb => by
    obtain ⟨⟨old, he⟩, ⟨o, ho, hc, hd⟩, _⟩ := st
    have e' : b = e ∨ b = it := by simpa using hb
    rcases e' with z | z
    · rw [z]; exact ⟨_, he, fun v q => nomatch q⟩
    · rw [z]; exact ⟨o, ho, fun v q => by rw [hd] at q; cases q⟩
  keep := fun i h h' st k => let ⟨⟨old, he⟩, hi, hne⟩ := st; ⟨⟨old, k e (by simp) _ he⟩, hi.at fun o q => k it (by simp) o q, hne⟩
  item := by
    intro X hP hw hK hc i pins s σ H E I hf st hg
    subst hP hw hK
    obtain ⟨⟨old, he⟩, hit, hne, hai, hea⟩ := st
    obtain ⟨xs, x, hq, hx⟩ := hg
    obtain ⟨its, rv, p, hz⟩ := I.tuple hq
    obtain ⟨u, hu, ru⟩ := rv.get hx
    have hel : e < s.heap.objs.size := Heap.lt_size he
    have hil : it < s.heap.objs.size := by obtain ⟨_, q, _⟩ := hit; exact Heap.lt_size q
    have hlt : i < its.toArray.size := by
      have := (List.getElem?_eq_some_iff.mp hu).1
      simpa using this
    refine wpAny_pyNext_enum_itemD (Draws.tuple (A := X.A.in1) (show X.A.in1.handled = none from I.ok.hd hc) it a hai its.toArray) he ⟨hit, p⟩ hlt hne (by simp [hne, hea]) fun y h' tk hy ho hst hT hsz hk => ?_
    obtain ⟨hit', p'⟩ := hst
    have hyu : y = u := by
      have hy : its.toArray[i]? = some y := hy
      have : its.toArray[i]? = some u := by simpa using hu
      rw [this] at hy
      exact (Option.some.inj hy).symm
    subst hyu
    refine ⟨_, rfl, wpAny_letOwnedTupleGo_enum (s := { s with heap := h', toks := tk + 1 }) ho fun h'' he' sb => ?_⟩
    have hT2 : h''.get? s.heap.objs.size = some { cls := .type "tuple", data := .seq #[.int i tk, y] } := (sb.2 _ (Nat.ne_of_gt hel)).trans hT
    have new : ObjOk X.prog X.w (upd H s.heap.objs.size (.tup [.int (i : Nat), x])) h'' s.heap.objs.size (.tup [.int (i : Nat), x]) :=
      ⟨by show 2 ≤ sizeLine; decide, [.int i tk, y], .cons ⟨_, rfl⟩ (.cons ru .nil), ⟨_, hT2, rfl, _, rfl⟩⟩
    have I1 : Inv X pins σ (upd H s.heap.objs.size (.tup [.int (i : Nat), x])) { s with heap := h'', toks := tk + 1 } :=
      I.turnedNew (ch := [e, it]) (fun b ob hb q => (sb.2 b (fun z => hb (by simp [z]))).trans (hk b ob (fun z => hb (by simp [z])) (fun z => hb (by simp [z])) q)) hf (Nat.le_refl _) new
    refine ⟨.ref s.heap.objs.size, _, I1, rfl, ⟨_, x, rfl, I.hok.fresh (Nat.le_refl _), rfl, fun ys hy => by rw [I.tuple_inj hy hq]; exact hx⟩, ⟨⟨y, ?_⟩, hit'.at fun o q => (sb.2 it (Ne.symm hne)).trans q, hne, hai, hea⟩, fun b hb => ?_⟩
    · have e1 : ((i + 1 : Nat) : Int) = (i : Int) + 1 := by omega
      rw [e1]; exact he'
    · have hb' : b < s.heap.objs.size := by
        have e' : b = e ∨ b = it := by simpa using hb
        rcases e' with z | z
        · rw [z]; exact hel
        · rw [z]; exact hil
      rw [upd_ne (Nat.ne_of_lt hb')]
      exact (hf b hb).1
  done := by
    intro X hP hw hK hc i pins s σ H E I hf st hg
    subst hP hw hK
    obtain ⟨⟨old, he⟩, hit, hne, hai, hea⟩ := st
    obtain ⟨xs, hq, hx⟩ := hg
    obtain ⟨its, rv, p, hz⟩ := I.tuple hq
    obtain ⟨f0, f1, f2, f3, f4, f5⟩ := hf it (by simp)
    have hl := rv.length
    exact pyNext_enumT_end (I.ok.hd hc) he hit p (by simp; omega) fun h' eb => ⟨rfl, I.turned (t' := s.toks) (fun b o hb q => eb b o hb q) f0 f1 f3 f4 f5⟩
  self := fun A i s Q E st h => let ⟨⟨_, he⟩, _⟩ := st; wpAny_pyIter_enum he h
/-- enumerate of a list that stays, of a tuple -/
def iEnumA (K : PySem.W.Frag) (ta : TA) : TI := fun σ H R => ta σ H fun vs H1 => ∃ a xs, vs = [.ref a] ∧ ((SqL K H1 a xs ∧ R (Ite K a) H1) ∨ (SqT K H1 a xs ∧ R (IteT K a) H1))
theorem pi_enumA {X : Cx} {e : Expr} {ta : TA} {p pos tpos : Pos} {elts : List Expr} {kk : Nat} (hg : Gl X "enumerate") (hm : X.mg "enumerate" = none) (ha : PA X [e] ta) (hs : starEach [e] X.env = [(false, eval e X.env)] := by rfl) :
    PI X (.Tuple elts kk tpos) (.Call (.Name "enumerate" p) [e] [] pos) (iEnumA X.K ta) := by
  refine ⟨fun pins s σ H R I h => ?_⟩
  refine Call_ (ld_blt I hg hm boot_enumerate (PyProof.Rows.callWith_type1 (thn (ha.run pos pins s σ H _ I h) fun us s1 ⟨vs, H1, I1, r1, q1⟩ => ?_) hs rfl))
  obtain ⟨a, xs, ex, q1⟩ := q1
  subst ex
  cases r1 with
  | cons r rr =>
    cases rr
    cases r
    rcases q1 with ⟨hq, q⟩ | ⟨hq, q⟩
    · obtain ⟨its, rv, p', hz⟩ := I1.list hq
      refine call_enumerate_list p'.isList fun h' he hit hsz hk => wpAny_pyIter_enum he ?_
      have I2 : Inv X pins σ H1 { s1 with heap := h' } := I1.kept (t' := s1.toks) hk
      refine ⟨s1.heap.objs.size + 1, [s1.heap.objs.size + 1, s1.heap.objs.size], _, _, H1, rfl, I2, turn_enum a (s1.heap.objs.size + 1) s1.heap.objs.size, ⟨⟨.none, he⟩, hit, Nat.succ_ne_self _⟩, fun b hb => ?_, q⟩
      have e' : b = s1.heap.objs.size + 1 ∨ b = s1.heap.objs.size := by simpa using hb
      have hle : s1.heap.objs.size ≤ b := by
        rcases e' with z | z
        · rw [z]; exact Nat.le_add_right _ _
        · rw [z]; exact Nat.le_refl _
      exact I1.fpOk hle (I1.hok.fresh hle)
    · obtain ⟨its, rv, p', hz⟩ := I1.tuple hq
      have hal : a < s1.heap.objs.size := by obtain ⟨_, q, _⟩ := p'; exact Heap.lt_size q
      refine call_enumT p' fun h' he hit hsz hk => wpAny_pyIter_enum he ?_
      have I2 : Inv X pins σ H1 { s1 with heap := h' } := I1.kept (t' := s1.toks) hk
      refine ⟨s1.heap.objs.size + 1, [s1.heap.objs.size + 1, s1.heap.objs.size], _, _, H1, rfl, I2, turn_enumT a (s1.heap.objs.size + 1) s1.heap.objs.size, ⟨⟨.none, he⟩, hit, Nat.succ_ne_self _, Nat.ne_of_lt hal, Nat.ne_of_gt (Nat.lt_succ_of_lt hal)⟩, fun b hb => ?_, q⟩
      have e' : b = s1.heap.objs.size + 1 ∨ b = s1.heap.objs.size := by simpa using hb
      have hle : s1.heap.objs.size ≤ b := by
        rcases e' with z | z
        · rw [z]; exact Nat.le_add_right _ _
        · rw [z]; exact Nat.le_refl _
      exact I1.fpOk hle (I1.hok.fresh hle)
end DL
end
section
namespace DL
open PySem PySem.Spec PyProof.Rows L2

/-! ### constants of the module that are data -/
def CstD (K : PySem.W.Frag) (mg : Str → Option Value) (x : Str) (d : PyData) : Prop := ∃ u v, mg x = some u ∧ RelV v u ∧ ∀ W H, Dz K W H v d
section
variable {X : Cx} {g : G} {E : WX} {x : Str} {d : PyData} {pos : Pos}
theorem px_cst (hK : X.K = g.K) (hg : Gl X x) (hm : CstD X.K X.mg x d) (hdb : (x == ("__debug__" : Str)) = false := by decide) : PE X (.Name x pos) (T g E (eK (.pd d))) := by
  obtain ⟨u, v, hm, rv, hd⟩ := hm
  exact pd_globD hg hm rv (hK ▸ hd) hdb
end
inductive StrsAre : List Value → List Str → Prop
  | nil : StrsAre [] []
  | cons {x : Str} {t : Tok} {us : List Value} {xs : List Str} : StrsAre us xs → StrsAre (.str x t :: us) (x :: xs)
theorem StrsAre.vals : ∀ {us : List Value} {xs : List Str}, StrsAre us xs → Vals (xs.map V.str) us
  | _, _, .nil => .nil
  | _, _, .cons h => .cons ⟨_, rfl⟩ h.vals
theorem StrsAre.len : ∀ {us : List Value} {xs : List Str}, StrsAre us xs → us.length = xs.length
  | _, _, .nil => rfl
  | _, _, .cons h => by rw [List.length_cons, List.length_cons, h.len]
theorem dz_strs {K : PySem.W.Frag} {W : Addr → Prop} {H : Hp} : ∀ xs : List Str, DzAll K W H (xs.map V.str) (xs.map PyData.str)
  | [] => .nil
  | x :: xs => .cons (.str x) (dz_strs xs)
theorem cst_strs {K : PySem.W.Frag} {mg : Str → Option Value} {x : Str} {a : Addr} {od : Option Addr} {us : List Value} {n : Nat} {sl : Array (Option Value)} {xs : List Str} (hm : mg x = some (.ref a)) (hl : K.lookup a = some ⟨.type "tuple", od, .seq us.toArray n, sl⟩) (h : StrsAre us xs) (hz : xs.length ≤ sizeLine := by decide) :
    CstD K mg x (.tuple (xs.map .str)) :=
  ⟨_, .ref a, hm, rfl, fun W H => .tup (.inr ⟨_, _, n, hl, rfl, rfl, by rw [List.size_toArray, h.len]; exact hz, h.vals⟩) (dz_strs xs)⟩

/-! ### a dict of the module: texts to defs -/
structure TabD (K : PySem.W.Frag) (P : Params) (mg : Str → Option Value) (x : Str) (ks : List (Str × Str)) (no : List Str) : Prop where
  ex : ∃ (d : Addr) (es : Array DictEntry) (n : Nat), mg x = some (.ref d) ∧ K.lookup d = some ⟨.type "dict", none, .dict es n, #[]⟩ ∧ PySem.W.KeysLit P es.toList ∧ (d == sysModules) = false ∧
    (∀ p ∈ ks, ∃ a, PySem.W.nsIn K d p.1 = some (some (.ref a)) ∧ mg p.2 = some (.ref a)) ∧ (∀ z ∈ no, PySem.W.nsIn K d z = some none) ∧ StrsAre (es.toList.map (·.key)) (ks.map (·.1))
inductive EntsAre (P : Params) (mg : Str → Option Value) : List DictEntry → List (Str × Str) → Prop
  | nil : EntsAre P mg [] []
  | cons {x f : Str} {t : Tok} {a : Addr} {es : List DictEntry} {ks : List (Str × Str)} : mg f = some (.ref a) → EntsAre P mg es ks → EntsAre P mg (⟨PyData.keyHash P x, .str x t, .ref a⟩ :: es) ((x, f) :: ks)
theorem EntsAre.lit {P : Params} {mg : Str → Option Value} : ∀ {es : List DictEntry} {ks : List (Str × Str)}, EntsAre P mg es ks → PySem.W.KeysLit P es
  | _, _, .nil => trivial
  | _, _, .cons _ h => ⟨⟨_, _, rfl, rfl⟩, h.lit⟩
theorem EntsAre.strs {P : Params} {mg : Str → Option Value} : ∀ {es : List DictEntry} {ks : List (Str × Str)}, EntsAre P mg es ks → StrsAre (es.map (·.key)) (ks.map (·.1))
  | _, _, .nil => .nil
  | _, _, .cons _ h => .cons h.strs
theorem isStr_str {x z : Str} {t : Tok} : (Value.str x t).isStr z = true ↔ x = z := by
  show (x == z) = true ↔ x = z
  exact beq_iff_eq
theorem EntsAre.find {P : Params} {mg : Str → Option Value} : ∀ {es : List DictEntry} {ks : List (Str × Str)}, EntsAre P mg es ks → (ks.map (·.1)).Nodup → ∀ p ∈ ks, ∃ e, es.find? (·.key.isStr p.1) = some e ∧ ∃ a, e.val = .ref a ∧ mg p.2 = some (.ref a)
  | _, _, .nil, _, _, h => by cases h
  | _, _, .cons (x := x) (t := t) hm h, nd, p, hp => by
    rw [List.map_cons, List.nodup_cons] at nd
    rcases List.mem_cons.mp hp with rfl | hp
    · exact ⟨_, by rw [List.find?_cons_of_pos]; exact isStr_str.mpr rfl, _, rfl, hm⟩
    · have hne : x ≠ p.1 := fun z => nd.1 (by rw [z]; exact List.mem_map.mpr ⟨p, hp, rfl⟩)
      obtain ⟨e, he, r⟩ := h.find nd.2 p hp
      exact ⟨e, by rw [List.find?_cons_of_neg]; exact he; exact fun z => hne (isStr_str.mp z), r⟩
theorem EntsAre.miss {P : Params} {mg : Str → Option Value} {z : Str} : ∀ {es : List DictEntry} {ks : List (Str × Str)}, EntsAre P mg es ks → z ∉ ks.map (·.1) → es.find? (·.key.isStr z) = none ∧ es.any (·.refKey) = false
  | _, _, .nil, _ => ⟨rfl, rfl⟩
  | _, _, .cons (x := x) hm h, nd => by
    rw [List.map_cons, List.mem_cons, not_or] at nd
    obtain ⟨h1, h2⟩ := h.miss nd.2
    refine ⟨by rw [List.find?_cons_of_neg]; exact h1; exact fun q => nd.1 (isStr_str.mp q).symm, ?_⟩
    rw [List.any_cons, h2, Bool.or_false]
    rfl
theorem tab_of {K : PySem.W.Frag} {P : Params} {mg : Str → Option Value} {x : Str} {d : Addr} {es : List DictEntry} {n : Nat} {ks : List (Str × Str)} {no : List Str} (hm : mg x = some (.ref d)) (hl : K.lookup d = some ⟨.type "dict", none, .dict es.toArray n, #[]⟩) (hlow : (d == sysModules) = false) (h : EntsAre P mg es ks)
    (nd : (ks.map (·.1)).Nodup := by decide) (hno : ∀ z ∈ no, z ∉ ks.map (·.1) := by decide) : TabD K P mg x ks no :=
  ⟨d, es.toArray, n, hm, hl, h.lit, hlow, fun p hp => by
    obtain ⟨e, he, a, ha, hf⟩ := h.find nd p hp
    refine ⟨a, ?_, hf⟩
    unfold PySem.W.nsIn
    rw [hl]
    simp only [he, ha], fun z hz => by
    obtain ⟨h1, h2⟩ := h.miss (hno z hz)
    unfold PySem.W.nsIn
    rw [hl]
    simp only [h1, h2]
    rfl, h.strs⟩
section
variable {X : Cx} {g : G} {E : WX} {x : Str} {ks : List (Str × Str)} {no : List Str} {p p2 pos : Pos} {e a : Expr} {es : List Expr} {ma : DM D} {ml : DM (List D)} {L : List Addr} {H : Hp} {S : Sto} {σd : Sl} {σ : L2.St}
/-- word in TAB, word not in TAB -/
def tabIn (ne : Bool) (ks : List (Str × Str)) (no : List Str) : D → DM D := fun d _ S => match d with
  | .pd (.str z) => if z ∈ ks.map (·.1) then .ok (.bl (!ne)) S else if z ∈ no then .ok (.bl ne) S else .stuck
  | _ => .stuck
def eTabIn (ne : Bool) (ks : List (Str × Str)) (no : List Str) (m : DM D) : DM D := mBind m (tabIn ne ks no)
theorem tab_name {d : Addr} (hm : X.mg x = some (.ref d)) (hg : Gl X x) (hdb : (x == ("__debug__" : Str)) = false) : PE X (.Name x p) (tC (.ref d)) := pe_glob (v := .ref d) hg hm rfl hdb
theorem tabIn_reads {d : Addr} (ne : Bool) (hks : ∀ p ∈ ks, ∃ a, PySem.W.nsIn X.K d p.1 = some (some (.ref a)) ∧ X.mg p.2 = some (.ref a)) (hno : ∀ z ∈ no, PySem.W.nsIn X.K d z = some none) {Q : VK} (h : T g E (eTabIn ne ks no ma) σ H Q) :
    tOp (fun x y H Q => ∃ (z : Str) (r : Option Value), x = .str z ∧ y = .ref d ∧ PySem.W.nsIn X.K d z = some r ∧ Q (.bl (r.isSome ^^ ne)) H) (T g E ma) (tC (.ref d)) σ H Q := by
  obtain ⟨L, σd, S, rp, sl, ev⟩ := h
  refine ⟨L, σd, S, rp, sl, ev.step fun dx S1 L1 H1 x1 r1 ev1 v n1 => ?_⟩
  unfold tabIn at ev1
  split at ev1
  · rename_i z
    cases den_str n1
    split at ev1
    · rename_i hz
      obtain ⟨q, hq, e⟩ := List.mem_map.mp hz
      obtain ⟨a, ha, _⟩ := hks q hq
      rw [e] at ha
      exact ⟨z, _, rfl, rfl, ha, fin_val r1 ev1 (by simpa using .pd (.bl _))⟩
    · split at ev1
      · rename_i hz
        exact ⟨z, _, rfl, rfl, hno z hz, fin_val r1 ev1 (by simpa using .pd (.bl _))⟩
      · exact ev1.elim
  · exact ev1.elim
end
end DL
end
section
namespace DL
open PySem PySem.Spec PyProof.Rows L2
open PySem.W (AllAlike Sortable dataLe SortsAt EachIs)

/-! ### TAB of the module: in, not in, TAB[word](..), sorted(TAB) -/
section
variable {X : Cx} {g : G} {E : WX} {x : Str} {ks : List (Str × Str)} {no : List Str} {p p2 pos : Pos} {e a : Expr} {es : List Expr} {ma : DM D} {ml : DM (List D)} {L : List Addr} {H : Hp} {S : Sto} {σd : Sl} {σ : L2.St} {k n : Nat}
theorem opr_in {d : Addr} {es : Array DictEntry} {n : Nat} (D : KDict X.K X.w d es n) : OpR X (compareOp .In) (fun x y H Q => ∃ (z : Str) (r : Option Value), x = .str z ∧ y = .ref d ∧ PySem.W.nsIn X.K d z = some r ∧ Q (.bl (r.isSome ^^ false)) H) := by
  intro pins s σ H x y v u Q I rx ry ⟨z, r, h1, h2, h3, h4⟩
  exact op_in_kd D pins s σ H x y v u Q I rx ry ⟨z, r, h1, h2, h3, by rw [Bool.xor_false] at h4; exact h4⟩
theorem opr_nin {d : Addr} {es : Array DictEntry} {n : Nat} (D : KDict X.K X.w d es n) : OpR X (compareOp .NotIn) (fun x y H Q => ∃ (z : Str) (r : Option Value), x = .str z ∧ y = .ref d ∧ PySem.W.nsIn X.K d z = some r ∧ Q (.bl (r.isSome ^^ true)) H) := by
  intro pins s σ H x y v u Q I rx ry ⟨z, r, h1, h2, h3, h4⟩
  exact op_notIn_kd D pins s σ H x y v u Q I rx ry ⟨z, r, h1, h2, h3, by rw [Bool.xor_true] at h4; exact h4⟩
variable (hT : TabD X.K X.w.params X.mg x ks no) (hg : Gl X x) (ha : PE X a (T g E ma))
include hT hg ha
theorem px_tabIn (hm : behindInMarks .In (.Name x p) = false := by rfl) (hdb : (x == ("__debug__" : Str)) = false := by decide) : PE X (.Compare a [.In] [.Name x p] pos) (T g E (eTabIn false ks no ma)) := by
  obtain ⟨d, des, n, h1, h2, h3, h4, h5, h6, _⟩ := hT.ex
  exact PE.imp (pe_cmpR (opr_in ⟨h2, h3, h4⟩) ha (tab_name h1 hg hdb) hm) fun σ H Q h => tabIn_reads false h5 h6 h
theorem px_tabNin (hm : behindInMarks .NotIn (.Name x p) = false := by rfl) (hdb : (x == ("__debug__" : Str)) = false := by decide) : PE X (.Compare a [.NotIn] [.Name x p] pos) (T g E (eTabIn true ks no ma)) := by
  obtain ⟨d, des, n, h1, h2, h3, h4, h5, h6, _⟩ := hT.ex
  exact PE.imp (pe_cmpR (opr_nin ⟨h2, h3, h4⟩) ha (tab_name h1 hg hdb) hm) fun σ H Q h => tabIn_reads true h5 h6 h
omit hT hg ha in
theorem tab_test {σ : L2.St} {H : Hp} {Q : Bool → Hp → Prop} {m : DM D} (h : TB g E (eTest m) σ H Q) : T g E m σ H fun x H' => ∃ k, x = .bl k ∧ Q k H' := by
  obtain ⟨L, σd, S, rp, sl, ev⟩ := h
  exact ⟨L, σd, S, rp, sl, ev.step fun d S' L' H' x r' ev' v dn => asB_ok r' dn ev'⟩
theorem pt_tabIn (hm : behindInMarks .In (.Name x p) = false := by rfl) (hdb : (x == ("__debug__" : Str)) = false := by decide) : PT X (.Compare a [.In] [.Name x p] pos) (TB g E (eTest (eTabIn false ks no ma))) := by
  obtain ⟨d, des, n, h1, h2, h3, h4, h5, h6, _⟩ := hT.ex
  exact PT.imp (pt_cmpR (opr_in ⟨h2, h3, h4⟩) ha (tab_name h1 hg hdb) hm) fun σ H Q h => tabIn_reads false h5 h6 (tab_test h)
theorem pt_tabNin (hm : behindInMarks .NotIn (.Name x p) = false := by rfl) (hdb : (x == ("__debug__" : Str)) = false := by decide) : PT X (.Compare a [.NotIn] [.Name x p] pos) (TB g E (eTest (eTabIn true ks no ma))) := by
  obtain ⟨d, des, n, h1, h2, h3, h4, h5, h6, _⟩ := hT.ex
  exact PT.imp (pt_cmpR (opr_nin ⟨h2, h3, h4⟩) ha (tab_name h1 hg hdb) hm) fun σ H Q h => tabIn_reads true h5 h6 (tab_test h)
end
/-- TAB[word](..) -/
def tabGet : List (Str × DF) → Str → Option DF
  | [], _ => none
  | (x, f) :: r, z => if x = z then some f else tabGet r z
def tabFn (tab : List (Str × DF)) (z : D) : Option DF := match z with
  | .pd (.str w) => tabGet tab w
  | _ => none
def eTabCall (n : Nat) (tab : List (Str × DF)) (mk : DM D) (ml : DM (List D)) : DM D := mBind mk fun z => match tabFn tab z with
  | some f => mBind ml (callF n f)
  | none => fun _ _ => .stuck
inductive TabC (P : Program) (w : World) (K : PySem.W.Frag) (mg : Str → Option Value) (base : Heap) (k n : Nat) : List (Str × DF) → List (Str × Str) → Prop
  | nil {ks : List (Str × Str)} : TabC P w K mg base k n [] ks
  | cons {x f : Str} {ps : List Str} {m : DF} {tab : List (Str × DF)} {ks : List (Str × Str)} : Cal P w K mg base k f ps m → ps.length = n → TabC P w K mg base k n tab ks → TabC P w K mg base k n ((x, m) :: tab) ((x, f) :: ks)
theorem TabC.get {P : Program} {w : World} {K : PySem.W.Frag} {mg : Str → Option Value} {base : Heap} {k n : Nat} {tab : List (Str × DF)} {ks : List (Str × Str)} (h : TabC P w K mg base k n tab ks) {z : Str} {m : DF} (e : tabGet tab z = some m) :
    ∃ f ps, (z, f) ∈ ks ∧ ps.length = n ∧ Cal P w K mg base k f ps m := by
  induction h with
  | nil => cases e
  | cons c hl _ ih =>
    unfold tabGet at e
    split at e
    · rename_i q
      cases e
      subst q
      exact ⟨_, _, List.mem_cons_self, hl, c⟩
    · obtain ⟨f, ps, h1, h2⟩ := ih e
      exact ⟨f, ps, List.mem_cons_of_mem _ h1, h2⟩
section
variable {X : Cx} {g : G} {E : WX} {x : Str} {ks : List (Str × Str)} {no : List Str} {p p2 pos : Pos} {e a : Expr} {es : List Expr} {ma : DM D} {ml : DM (List D)} {L : List Addr} {H : Hp} {S : Sto} {σd : Sl} {σ : L2.St} {k n : Nat} {tab : List (Str × DF)}
theorem px_tabCall (hT : TabD X.K X.w.params X.mg x ks no) (hC : TabC X.prog X.w X.K X.mg X.base k n tab ks) (hg : Gl X x) (hr : RoomG k X.A) (hK : X.K = g.K) (hmg : X.mg = g.mg) (tk : Takes X E) (ha : PE X a (T g E ma)) (hl : PA X (e :: es) (TL g E ml))
    (hs : PlainIx a := by exact fun _ _ => rfl) (hdb : (x == ("__debug__" : Str)) = false := by decide)
    (ht : eval (.Call (.Subscript (.Name x p) a p2) (e :: es) [] pos) X.env = (do callWith pos (← eval (.Subscript (.Name x p) a p2) X.env) [] (backTo pos (starEach (e :: es) X.env)) (backToKw pos (keywordEach [] X.env))) := by rfl)
    (he : starEach (e :: es) X.env = (false, eval e X.env) :: starEach es X.env := by rfl) (hpl : (backTo pos (starEach es X.env)).any (·.1) = false := by rfl) :
    PE X (.Call (.Subscript (.Name x p) a p2) (e :: es) [] pos) (T g E (eTabCall n tab ma ml)) := by
  obtain ⟨d, des, dn, h1, h2, h3, h4, h5, h6, _⟩ := hT.ex
  have hsub : PE X (.Subscript (.Name x p) a p2) (tOp (rIxD X.K X.w) (tC (.ref d)) (T g E ma)) := pe_ix ix_kdict (tab_name h1 hg hdb) ha hs
  refine ⟨fun pins s σ H Q I h => ?_⟩
  have hq : tOp (rIxD X.K X.w) (tC (.ref d)) (T g E ma) σ H (fun y H1 => ∃ f a fd ps m, y = .ref a ∧ X.mg f = some (.ref a) ∧ ps.length = n ∧ FnG X.prog X.w X.K X.mg X.base k a fd ps (spM X.K X.mg ps.length m) ∧ PySem.W.keepIn X.K (.ref a) = true ∧ Binds X.K fd ps [] ∧ T g E (mBind ml (callF n m)) σ H1 Q) := by
    obtain ⟨L, σd, S, rp, sl, ev⟩ := h
    refine ⟨L, σd, S, rp, sl, ev.step fun dz S1 L1 H1 x1 r1 ev1 v n1 => ?_⟩
    cases em : tabFn tab dz with
    | none => rw [em] at ev1; exact ev1.elim
    | some m =>
      rw [em] at ev1
      unfold tabFn at em
      split at em
      · rename_i z
        cases den_str n1
        obtain ⟨f, ps, hm, hpl, C⟩ := hC.get em
        obtain ⟨a1, ha1, hf1⟩ := h5 _ hm
        obtain ⟨a2, fd, F, hf2, hk, hb⟩ := C.ex
        rw [hf1] at hf2
        cases hf2
        exact ⟨d, z, .ref a1, rfl, rfl, ⟨des, dn, _, h2, h3, ha1, rfl⟩, f, a1, fd, ps, m, rfl, hf1, hpl, F, hk, hb, L1, σd, S1, r1, sl.ext rp x1, ev1⟩
      · cases em
  refine Call_ (thn (hsub.run pins s σ H _ I hq) fun u s1 ⟨y, H1, I1, ry, f, a1, fd, ps, m, ey, hf, hpl2, F, hk, hb, q⟩ => ?_) ht
  subst ey
  obtain rfl : u = Value.ref a1 := ry
  subst hpl2
  exact PySem.W.callWith_K (h₀ := X.base) I1.ok.mod.kin hk (thn (hl.run pos pins s1 σ H1 _ I1 (call_reads hK hmg q)) fun us s2 ⟨vs, H2, I2, r, q2⟩ => ⟨I2.kIn, run_fnG (E := fun σ => WE E σ) F hr hb (passAt tk σ) I2 r (by simpa only [List.append_nil] using q2)⟩) he hpl
end
end DL
end
section
namespace DL
open PySem PySem.Spec PyProof.Rows L2
open PySem.W (AllAlike Sortable dataLe SortsAt EachIs)
/-! ### sorted(TAB) -/
def strLe (a b : Str) : Bool := decide (a.cps.toList ≤ b.cps.toList)
section
variable {prog : Program} {w : World} {A : Around} {E : Value → Shared → Prop} {s : Shared}
theorem strs_acc {es : Array DictEntry} {acc : Array Value} (h : ItemsOf (fun i v => ∃ hi : i < es.size, v = es[i].key) acc es.size) : acc.toList = es.toList.map (·.key) := by
  refine List.ext_getElem? fun i => ?_
  by_cases hi : i < es.size
  · have hia : i < acc.size := by rw [h.1]; exact hi
    obtain ⟨_, e⟩ := h.2 i acc[i] (by simp [hia])
    simp [hi, hia, e]
  · have hia : ¬ i < acc.size := by rw [h.1]; exact hi
    simp [hi, hia]
theorem strs_each {R : Value → Str → Prop} : ∀ {us : List Value} {xs : List Str}, StrsAre us xs → (∀ x t, R (.str x t) x) → EachIs R us xs
  | _, _, .nil, _ => .nil
  | _, _, .cons h, f => .cons (f _ _) (strs_each h f)
theorem each_strs : ∀ {us : List Value} {xs : List Str}, EachIs (fun v x => ∃ t, v = .str x t) us xs → StrsAre us xs
  | _, _, .nil => .nil
  | _, _, .cons ⟨t, e⟩ h => by subst e; exact .cons (each_strs h)
theorem sorted_dict {d : Addr} {es : Array DictEntry} {n : Nat} {xs : List Str} {Q : Value → Shared → Prop} (lo : (d == sysModules) = false) (hm : s.heap.DictRaw d es n) (hh : A.handled = none) (hk : StrsAre (es.toList.map (·.key)) xs) (hz : xs.length ≤ sizeLine) (hu : A.units + 4 < cLine)
    (h : ∀ (h1 : Heap) (tk1 : Nat) (h2 : Heap) (out : List Value) (ep : Nat), (∀ b o, s.heap.get? b = some o → h1.get? b = some o) → (∀ b o, h1.get? b = some o → h2.get? b = some o) → h2.get? h1.objs.size = some (seqObj "list" out.toArray ep) → StrsAre out (xs.mergeSort strLe) →
      Q (.ref h1.objs.size) { s with heap := h2, toks := tk1 }) :
    wpAny (model prog w) A (call (.builtin "sorted") [.ref d]) Q E s := by
  have hes : es.size = xs.length := by have := hk.len; simpa using this
  refine PySem.Calls.call_function_entry kind_sorted plain_sorted entry_sorted (args_sorted1 _) ?_
  unfold Builtin.«sorted»
  refine wpAny_bind (m := checkCount "sorted" 1 1 _) (wpAny_pure ?_)
  refine wpAny_bind (PySem.W.kdu_collect (A := A.in1) (KdlSrc.rawDict lo) hh hm (by rw [hes]; exact hz) fun h1 tk acc hk1 hacc => ?_)
  rw [strs_acc hacc]
  have hl : (es.toList.map (·.key)).length ≤ sizeLine := by rw [hk.len]; exact hz
  refine wpAny_bind (wpAny_newList ?_ hl)
  have ho : (h1.push (seqObj "list" (es.toList.map (·.key)).toArray 0)).get? h1.objs.size = some (seqObj "list" (es.toList.map (·.key)).toArray 0) := Heap.get?_push_size _ rfl
  refine wpAny_bind (wpAny_holding (PySem.W.list_sort_data (A := A.in1) (s := { s with heap := h1.push (seqObj "list" (es.toList.map (·.key)).toArray 0), toks := tk }) (R := fun v x => ∃ t, v = .str x t) (enc := fun x => PyData.str x) (bs := xs) ho (strs_each hk fun x t => ⟨t, rfl⟩) (strs_each hk fun x t => ⟨[], Reads.str x t, by simp⟩)
    (AllAlike.of fun _ _ => rfl) (Sortable.others fun b => ⟨by simp, by simp⟩) hz (fun b _ => by show A.units + 1 + 1 + (PyData.str b).depth < cLine; simp only [PyData.depth]; omega) fun out hlen ho2 => ?_))
  rw [PySem.W.dataLe_str (fun x => x)] at ho2
  obtain ⟨ep, hat⟩ := sortedHeap_at (out := out.toArray) ho
  refine wpAny_pure ⟨_, rfl, h h1 tk _ out ep hk1 (fun b o e => ?_) hat (each_strs ho2)⟩
  have hlt := Heap.lt_size e
  rw [sortedHeap_old (Nat.ne_of_lt hlt) (by rw [size_push']; exact Nat.lt_succ_of_lt hlt)]
  exact Heap.get?_push_of_some _ e
end
/-- the same list, by sight -/
theorem sort_is {xs ys : List Str} (hp : ys.Perm xs) (hs : ys.Pairwise fun a b => strLe a b = true) : xs.mergeSort strLe = ys := by
  have tr : ∀ a b c : Str, strLe a b = true → strLe b c = true → strLe a c = true := fun a b c h1 h2 => decide_eq_true (List.le_trans (of_decide_eq_true h1) (of_decide_eq_true h2))
  have tot : ∀ a b : Str, (strLe a b || strLe b a) = true := fun a b => by
    rcases List.le_total a.cps.toList b.cps.toList with h | h
    · simp [strLe, h]
    · simp [strLe, h]
  have h1 := List.pairwise_mergeSort tr tot xs
  refine List.Perm.eq_of_pairwise (le := fun a b => strLe a b = true) (fun a b _ _ h1 h2 => ?_) h1 hs ((List.mergeSort_perm _ _).trans hp.symm)
  exact PySem.W.str_of_cps (List.le_antisymm (of_decide_eq_true h1) (of_decide_eq_true h2))
section
variable {X : Cx} {g : G} {E : WX} {x : Str} {ks : List (Str × Str)} {no : List Str} {p p2 pos : Pos} {srt : List Str}
theorem px_tabSorted (hT : TabD X.K X.w.params X.mg x ks no) (hc : X.calm = true) (hu : X.A.units + 64 < cLine) (hS : (ks.map (·.1)).mergeSort strLe = srt) (hz : ks.length ≤ sizeLine) (hgs : Gl X "sorted") (hms : X.mg "sorted" = none) (hg : Gl X x) (hdb : (x == ("__debug__" : Str)) = false := by decide)
    (he : starEach [.Name x p] X.env = [(false, eval (.Name x p) X.env)] := by rfl) : PE X (.Call (.Name "sorted" p2) [.Name x p] [] pos) (T g E (eK (.lst (srt.map .str)))) := by
  obtain ⟨d, des, dn, h1, h2, h3, h4, h5, h6, h7⟩ := hT.ex
  have hc2 : CallR X (.builtin "sorted") (fun xs H Q => xs = [.ref d] ∧ ∀ p, H p = none → Q (.ref p) (upd H p (.lst (srt.map V.str)))) := by
    intro pins s σ H xs us Q I r h
    obtain ⟨rfl, q⟩ := h
    rw [Vals.ref1 r]
    refine sorted_dict h4 ⟨_, I.kIn _ _ h2, ⟨rfl, rfl, rfl⟩, rfl⟩ (I.ok.hd hc) h7 (by simpa using hz) (by omega) fun h1 tk1 h2 out ep k1 k2 hat hout => ?_
    rw [hS] at hout
    have I1 : Inv X pins σ H { s with heap := h1, toks := tk1 } := I.kept k1
    exact ⟨.ref _, upd H h1.objs.size (.lst (srt.map V.str)), L2.Inv.laid (s := { s with heap := h1, toks := tk1 }) (t' := tk1) I1 k2 (Nat.le_refl _) ⟨by rw [hout.vals.length, hout.len, ← hS, List.length_mergeSort]; simpa using hz, out, ep, hout.vals, hat⟩, rfl, q _ (I1.hok.fresh (Nat.le_refl _))⟩
  refine PE.imp (pe_callB hc2 hgs hms (by decide +kernel) (pa_cons (tab_name h1 hg hdb) pa_nil he) (by decide) (by decide) he) fun σ H Q ⟨L, σd, S, rp, sl, ev⟩ => ⟨rfl, ?_⟩
  exact fin_lst rp ev (dz_strs srt)
end
end DL
end
section
namespace DL
open PySem PySem.Spec PyProof.Rows L2

/-! ### enumerate -/
def enumIt : Nat → List PyData → List D
  | _, [] => []
  | i, x :: xs => .tup [.int (i : Nat), x] :: enumIt (i + 1) xs
theorem enumIt_len : ∀ (k : Nat) (xs : List PyData), (enumIt k xs).length = xs.length
  | _, [] => rfl
  | k, x :: xs => by rw [enumIt, List.length_cons, List.length_cons, enumIt_len]
theorem enumIt_get {d : D} : ∀ {k : Nat} {xs : List PyData} {i : Nat}, (enumIt k xs)[i]? = some d → ∃ x, xs[i]? = some x ∧ d = .tup [.int ((k + i : Nat) : Int), x]
  | _, [], i, e => by simp [enumIt] at e
  | k, x :: xs, 0, e => by simp [enumIt] at e; exact ⟨x, by simp, e.symm⟩
  | k, x :: xs, i + 1, e => by
    obtain ⟨y, h1, h2⟩ := enumIt_get (k := k + 1) (xs := xs) (i := i) (by simpa [enumIt] using e)
    exact ⟨y, by simpa using h1, by rw [h2, Nat.add_assoc, Nat.add_comm 1 i]⟩
def wkEnum : List D → DM Wk := fun ds _ S => match ds with
  | [.pd (.tuple xs)] => .ok ⟨enumIt 0 xs, .no⟩ S
  | [.pd (.list xs)] => .ok ⟨enumIt 0 xs, .no⟩ S
  | _ => .stuck
def iEnum (m : DM (List D)) : DM Wk := mBind m wkEnum
section
variable {g g' : G} {E : WX} {L : List Addr} {H H1 : Hp} {S : Sto} {σd : Sl} {σ : L2.St}
variable {X : Cx} {p pos tpos : Pos} {e a b : Expr} {ml : DM (List D)}
theorem ix_enum (hK : X.K = g.K) (hg : Gl X "enumerate") (hm : X.mg "enumerate" = none) {elts : List Expr} {kk : Nat} (ha : PA X [a] (TL g E ml)) (hs : starEach [a] X.env = [(false, eval a X.env)] := by rfl) :
    PI X (.Tuple elts kk tpos) (.Call (.Name "enumerate" p) [a] [] pos) (TW g E (iEnum ml)) :=
  PI.imp (pi_enumA hg hm ha hs) fun σ H R ⟨L, σd, S, rp, sl, ev⟩ => ⟨L, σd, S, rp, sl, ev.step fun ds S1 L1 H1 x1 r1 ev1 vs dn => by
    unfold wkEnum at ev1
    split at ev1
    · rename_i xs
      have fin := ev1.ok r1
      cases dn with
      | cons n1 n2 =>
        cases n2
        obtain ⟨p1, w1, rfl, t1, z1⟩ := den_tup n1
        rw [hK]
        refine ⟨p1, w1, rfl, .inr ⟨t1, fin _ fun g' L S H gx x r' _ => ?_⟩⟩
        have stay : SqT g.K H p1 w1 := SqT.keep t1 fun zs hz o e' => x.keep p1 o e' fun hm => by
          obtain ⟨o2, e2, nt⟩ := r1.there hm
          rcases hz with hz | ⟨o3, hz⟩
          · rw [hz] at e2; cases e2; exact nt.1 zs rfl
          · rw [hz] at e2; cases e2; exact nt.2 o3 zs rfl
        refine ⟨fun i d e => ?_, w1, stay, ?_⟩
        · obtain ⟨dx, ex, rfl⟩ := enumIt_get e
          obtain ⟨x', gx', zx⟩ := z1.get ex
          refine ⟨⟨w1, x', stay, gx'⟩, fun z H' hz => ?_⟩
          obtain ⟨T, x2, rfl, hT, rfl, f1⟩ := hz
          have e3 := f1 _ stay
          rw [gx'] at e3; cases e3
          have k := kpx r1 gx x
          rw [Nat.zero_add]
          exact pairNew r' hT (.int _) (gx.K ▸ zx.keep k)
        · rw [z1.len, enumIt_len]; exact Nat.le_refl _
    · rename_i xs
      have fin := ev1.ok r1
      cases dn with
      | cons n1 n2 =>
        cases n2
        cases n1 with
        | pd q1 =>
        cases q1 with
        | @lst p1 w1 _ nw1 t1 z1 =>
        rw [hK]
        refine ⟨p1, w1, rfl, .inl ⟨.inl t1, fin _ fun g' L S H gx x r' _ => ?_⟩⟩
        have stay : SqL g.K H p1 w1 := .inl (Rd.keep t1 fun o e' => x.keep p1 o e' fun hm => nw1 (.inr hm))
        refine ⟨fun i d e => ?_, w1, stay, ?_⟩
        · obtain ⟨dx, ex, rfl⟩ := enumIt_get e
          obtain ⟨x', gx', zx⟩ := z1.get ex
          refine ⟨⟨w1, x', stay, gx'⟩, fun z H' hz => ?_⟩
          obtain ⟨T, x2, rfl, hT, rfl, f1⟩ := hz
          have e3 := f1 _ stay
          rw [gx'] at e3; cases e3
          have k := kpx r1 gx x
          rw [Nat.zero_add]
          exact pairNew r' hT (.int _) (gx.K ▸ zx.keep k)
        · rw [z1.len, enumIt_len]; exact Nat.le_refl _
    · exact ev1.elim⟩
/-! ### {} that stays -/
theorem px_dict0 : PE X (.Dict [] [] pos) (T g E (eK (.pd (.dict [])))) :=
  PE.imp pe_dnewK fun σ H Q ⟨L, σd, S, rp, sl, ev⟩ => fun p hp => ev L _ (Ext.new1 hp) (rp.new1 hp) _ (.pd (.dct (kvs := []) (ks := []) (ds := []) (rp.free hp) (.inl upd_same) .nil .nil))
end
end DL
end
section
namespace DL
open PySem PySem.Spec PyProof.Rows L2

/-! ### t[::-1] -/
theorem adjust_rev (n : Nat) : Builtin.Slice.sliceAdjust none none (-1) (n : Int) = ((n : Int) - 1, -1) := by
  simp [Builtin.Slice.sliceAdjust]
theorem places_rev (n : Nat) : Builtin.Slice.slicePlaces ((n : Int) - 1) (-1) (-1) = n := by
  unfold Builtin.Slice.slicePlaces
  simp
  omega
theorem pick_rev (xs : Array Value) : ((List.range xs.size).filterMap fun (m : Nat) => xs[((xs.size : Int) - 1 + (m : Int) * -1).toNat]?).toArray = xs.toList.reverse.toArray := by
  congr 1
  have h1 : ((List.range xs.size).filterMap fun (m : Nat) => xs[((xs.size : Int) - 1 + (m : Int) * -1).toNat]?) = (List.range xs.size).filterMap (some ∘ fun m => xs.toList.reverse.getD m Value.none) := by
    have hc : ∀ (l : List Nat) (f g : Nat → Option Value), (∀ m ∈ l, f m = g m) → l.filterMap f = l.filterMap g := by
      intro l f g h
      induction l with
      | nil => rfl
      | cons a l ih => rw [List.filterMap_cons, List.filterMap_cons, h a List.mem_cons_self, ih fun m hm => h m (List.mem_cons_of_mem _ hm)]
    refine hc _ _ _ fun m hm => ?_
    have hm := List.mem_range.mp hm
    have e : ((xs.size : Int) - 1 + (m : Int) * -1).toNat = xs.size - 1 - m := by omega
    rw [e]
    simp [List.getD, hm]
  rw [h1, List.filterMap_eq_map]
  refine List.ext_getElem? fun i => ?_
  by_cases hi : i < xs.size
  · simp [hi]
  · simp [hi]
section
variable {prog : Program} {w : World} {A : Around} {E : Value → Shared → Prop} {s : Shared}
theorem sliceApplied_rev {sl : Addr} {vl vu vs : Value} {n : Nat} {Q : Int × Int × Nat → Shared → Prop} (hs : s.heap.IsSliceOf sl vl vu vs) (pl : IsPart vl none) (pu : IsPart vu none) (ps : IsPart vs (some (-1)))
    (h : Q ((n : Int) - 1, -1, n) s) : wpAny (model prog w) A (Builtin.Slice.sliceApplied (.ref sl) (pure (n : Int))) Q E s := by
  obtain ⟨os, hos, hcs, hds⟩ := id hs
  unfold Builtin.Slice.sliceApplied Builtin.Slice.sliceFields
  refine wpAny_bind (wpAny_bind (wpAny_field hos hds (x := vl) rfl (wpAny_bind (wpAny_field hos hds (x := vu) rfl (wpAny_bind (wpAny_field hos hds (x := vs) rfl (wpAny_pure ?_)))))))
  refine wpAny_bind (HT.slicePart_ ps ?_)
  show wpAny _ _ (if ((-1 : Int) == 0) = true then _ else _) _ _ s
  rw [if_neg (by decide)]
  refine wpAny_bind (HT.slicePart_ pl (wpAny_bind (HT.slicePart_ pu (wpAny_bind (wpAny_pure ?_)))))
  show wpAny _ _ (match Builtin.Slice.sliceAdjust none none (-1) (n : Int) with | (lo, hi) => pure (lo, (-1 : Int), Builtin.Slice.slicePlaces lo hi (-1))) _ _ s
  rw [adjust_rev]
  show wpAny _ _ (pure ((n : Int) - 1, (-1 : Int), Builtin.Slice.slicePlaces ((n : Int) - 1) (-1) (-1))) _ _ s
  rw [places_rev]
  exact wpAny_pure h
theorem getItem_tuple_rev {t sl : Addr} {items : Array Value} {vl vu vs : Value} {Q : Value → Shared → Prop} (ht : IsTup s.heap t items) (hs : s.heap.IsSliceOf sl vl vu vs) (pl : IsPart vl none) (pu : IsPart vu none) (ps : IsPart vs (some (-1)))
    (h : Q (.ref s.heap.objs.size) { s with heap := s.heap.push { cls := .type "tuple", data := .seq items.toList.reverse.toArray } })
    (hsz : items.size ≤ sizeLine) : wpAny (model prog w) A (getItem (.ref t) (.ref sl)) Q E s := by
  have htake : sizeOk (.seq items.toList.reverse.toArray) := by
    show items.toList.reverse.toArray.size ≤ sizeLine
    rw [List.size_toArray, List.length_reverse, Array.length_toList]
    exact hsz
  obtain ⟨os, hos, hcs, hds⟩ := id hs
  have hTs : s.TypeIs (.ref sl) "slice" := ⟨os, hos, hcs⟩
  unfold getItem
  try with_reducible refine wpAny_holding ?_
  first | refine wpAny_bind (wpAny_pure ?_) | skip
  refine wpAny_bind (wpAny_sequenceKey ht.typeIs (by decide) ?_)
  refine wpAny_bind (wpAny_callSpecial?_slot (name := Str.ofString "__getitem__") ht.typeIs PyProof.Rows.slot_tuple_getitem
    (wpAny_call_entry PyProof.Rows.slot_tuple_getitem ht.typeIs entry_tuple_getitem ?_ (args_tuple_getitem _ _)))
  show wpAny _ _ (Builtin.Tuple.tupleItemsOf (.ref t) >>= _) _ _ s
  refine wpAny_bind (tupleItemsOf_ ht ?_)
  refine wpAny_bind (wpAny_typeOf hTs ?_)
  rw [if_pos (by decide)]
  refine wpAny_bind (sliceApplied_rev hs pl pu ps ?_)
  have hno : ¬ ((((items.size : Int) - 1) == 0 && (-1 : Int) == 1 && items.size == items.size) = true) := by
    intro q
    rw [Bool.and_eq_true, Bool.and_eq_true] at q
    exact absurd q.1.2 (by decide)
  show wpAny _ _ (if ((((items.size : Int) - 1) == 0 && (-1 : Int) == 1 && items.size == items.size) = true) then _ else _) _ _ s
  rw [if_neg hno, pick_rev]
  first
    | exact wpAny_bind (m := Builtin.Tuple.tupleExact _) (wpAny_newObj_type (wpAny_pure ⟨_, rfl, wpAny_pure h⟩) htake)
    | exact wpAny_bind (m := Builtin.Tuple.tupleExact _) (wpAny_newObj_type (wpAny_bind (wpAny_pure (wpAny_pure ⟨_, rfl, wpAny_pure h⟩))) htake)
    | exact wpAny_bind (wpAny_bind (m := Builtin.Tuple.tupleExact _) (wpAny_newObj_type (wpAny_pure (wpAny_pure ⟨_, rfl, wpAny_pure h⟩)) htake))
    | exact wpAny_bind (wpAny_bind (m := Builtin.Tuple.tupleExact _) (wpAny_newObj_type (wpAny_pure ⟨_, rfl, wpAny_pure h⟩) htake))
end
def tRevT (K : PySem.W.Frag) (te : TE) : TE := fun σ H Q => te σ H fun x H1 => ∃ a xs, x = .ref a ∧ SqT K H1 a xs ∧ ∀ p, H1 p = none → Q (.ref p) (upd H1 p (.tup xs.reverse))
section
variable {X : Cx} {g : G} {E : WX} {ma : DM D} {a : Expr} {pos : Pos}
theorem pe_revT {e : Expr} {te : TE} {k : Nat} {p1 p2 p3 pos : Pos} (he : PE X e te) : PE X (.Subscript e (.Slice none none (some (.UnaryOp .USub (.Constant (.int 1) k p1) p2)) p3) pos) (tRevT X.K te) := by
  refine ⟨fun pins s σ H Q I h => ?_⟩
  refine Subscript_ (thn (he.run pins s σ H _ I h) fun v s1 ⟨x, H1, I1, r1, q1⟩ => ?_)
  obtain ⟨a, xs, ex, hx, q⟩ := q1
  subst ex
  cases r1
  have hst : PO X (some (.UnaryOp .USub (.Constant (.int 1) k p1) p2)) (tPart (tUn (rU fun i => .int (-i)) (tC (.int 1)))) := po_some (pe_un un_neg pe_int)
  refine wpAny_Slice (thn (po_none.run pins s1 σ H1 (fun o H2 => o = none ∧ H2 = H1) I1 ⟨rfl, rfl⟩) fun vl s2 ⟨l, H2, I2, pl, el, e2⟩ => ?_)
  subst el e2
  refine thn (po_none.run pins s2 σ H2 (fun o H3 => o = none ∧ H3 = H2) I2 ⟨rfl, rfl⟩) fun vu s3 ⟨u, H3, I3, pu, eu, e3⟩ => ?_
  subst eu e3
  refine thn (hst.run pins s3 σ H3 (fun o H4 => o = some (-1) ∧ H4 = H3) I3 ⟨1, rfl, -1, rfl, rfl, rfl⟩) fun vs s4 ⟨o, H4, I4, ps, eo, e4⟩ => ?_
  subst eo e4
  have I5 : Inv X pins σ H4 { s4 with heap := s4.heap.push { cls := .type "slice", data := .fields #[vl, vu, vs] } } := I4.kept (t' := s4.toks) fun b ob q => Heap.get?_push_of_some _ q
  obtain ⟨its, r, ht, hz⟩ := I5.tuple hx
  have hlen := r.length
  show wpAny (model X.prog X.w) X.A (subscriptTail e (.Slice none none (some (.UnaryOp .USub (.Constant (.int 1) k p1) p2)) p3) (.ref a) (.ref s4.heap.objs.size)) (EP X pins σ Q) X.xe { s4 with heap := s4.heap.push { cls := .type "slice", data := .fields #[vl, vu, vs] } }
  refine tail_any (ops := [.ref a, .ref s4.heap.objs.size]) ht.typeIs (PyProof.Rows.slot_tuple_getitem.lookup) ?_ (by with_unfolding_all rfl)
  refine getItem_tuple_rev ht (Heap.IsSliceOf.new _ vl vu vs) pl pu ps ?_ (by rw [List.size_toArray]; omega)
  refine ⟨.ref _, _, I5.laid (t' := s4.toks) (o := .tup xs.reverse) (fun b ob q => Heap.get?_push_of_some _ q) (Nat.le_refl _) ?_, rfl, q _ (I5.hok.fresh (Nat.le_refl _))⟩
  exact ⟨by rw [List.length_reverse]; exact hz, _, r.reverse, IsTup.new _ _⟩
def eRevT (m : DM D) : DM D := mBind m fun d => fun _ S => match d with
  | .pd (.tuple xs) => .ok (.tup xs.reverse) S
  | _ => .stuck
theorem px_revT (hK : X.K = g.K) {k : Nat} {p1 p2 p3 : Pos} (ha : PE X a (T g E ma)) : PE X (.Subscript a (.Slice none none (some (.UnaryOp .USub (.Constant (.int 1) k p1) p2)) p3) pos) (T g E (eRevT ma)) :=
  PE.imp (pe_revT ha) fun σ H Q ⟨L, σd, S, rp, sl, ev⟩ => ⟨L, σd, S, rp, sl, ev.step fun d S' L' H' x r' ev' v dn => by
    split at ev'
    · obtain ⟨a, vs, rfl, rd, dz⟩ := den_tup dn
      rw [hK]
      exact ⟨a, vs, rfl, rd, fin_tup r' ev' dz.rev⟩
    · exact ev'.elim⟩
/-! ### t == (), t != () -/
def opEqT (ne : Bool) : D → D → Sto → Out D := fun x y S => match x, y with
  | .pd (.tuple xs), .pd (.tuple []) => .ok (.bl (xs.isEmpty ^^ ne)) S
  | x, y => opEq ne x y S
theorem ox_eqT (hk : X.K = g.K) (hu : X.A.units + 64 < cLine) : OpX X g (compareOp .Eq) (opEqT false) := by
  intro E pins s σ H x y v u Q I rx ry h
  obtain ⟨L, S, dx, dy, r, nx, ny, ev⟩ := h
  unfold opEqT at ev
  split at ev
  · rename_i xs
    obtain ⟨a, vs, rfl, rd, dz⟩ := den_tup nx
    obtain ⟨b, ws, rfl, rd2, dz2⟩ := den_tup ny
    cases dz2
    rw [← hk] at rd rd2
    cases rx
    cases ry
    obtain ⟨its, r1, p1, _⟩ := I.tuple rd
    obtain ⟨its2, r2, p2, _⟩ := I.tuple rd2
    cases r2
    refine PySem.SeqAt.eq_tupleAt (e := fun _ => true) p1 p2 (by omega) (fun j h1 h2 => absurd h2 (by simp)) ?_
    have hlen := r1.length
    have e1 : ((List.range (min its.toArray.size ([] : List Value).toArray.size)).all (fun _ => true) && its.toArray.size == ([] : List Value).toArray.size) = xs.isEmpty := by
      have h3 := dz.len
      cases xs with
      | nil =>
        have : its = [] := List.length_eq_zero_iff.mp (by rw [← hlen, h3]; rfl)
        subst this
        rfl
      | cons z zs =>
        cases its with
        | nil => rw [h3] at hlen; cases hlen
        | cons _ _ => rfl
    rw [e1]
    exact ⟨.bl _, H, I, rfl, fin_val r ev (by rw [Bool.xor_false]; exact .pd (.bl _))⟩
  · exact ox_eq hk hu E pins s σ H x y v u Q I rx ry ⟨L, S, _, _, r, nx, ny, ev⟩
end
end DL
namespace DL
open PySem PySem.Spec PyProof.Rows L2
theorem FnG.zero {P : Program} {w : World} {K : PySem.W.Frag} {mg : Str → Option Value} {base : Heap} {k : Nat} {f : Addr} {fd : FuncData} {ps : List Str} {n : Nat} (hn : ps.length = n := by rfl) : FnG P w K mg base k f fd ps (spM K mg n (fun _ _ => .stuck)) :=
  ⟨fun vs H Q E h => h.1.trans hn.symm, fun A outer s H args us vs Q E hr e0 hb r hsp => by
    obtain ⟨_, W, as, ds, S, _, _, ev⟩ := hsp
    exact ev.elim⟩
end DL
end
section
namespace DL
open PySem PySem.Spec PyProof.Rows L2
/-! ### max of a tuple of whole numbers -/
theorem leastmost_fold (n : Int) : ∀ ns : List Int, ns.foldl max n = mostI (n :: ns) := by
  intro ns
  induction ns generalizing n with
  | nil => rfl
  | cons k r ih =>
    rw [List.foldl_cons, ih]
    show mostI (max n k :: r) = max n (mostI (k :: r))
    cases r with
    | nil => rfl
    | cons a t =>
      show max (max n k) (mostI (a :: t)) = max n (max k (mostI (a :: t)))
      exact Int.max_assoc n k _
theorem alike_ints2 (ns : List Int) : PySem.W.AlikeAll (ns.map .int) := by
  refine ⟨fun x hx y hy => ?_, fun x hx => ?_⟩
  · obtain ⟨a, _, rfl⟩ := List.mem_map.mp hx
    obtain ⟨b, _, rfl⟩ := List.mem_map.mp hy
    rfl
  · obtain ⟨a, _, rfl⟩ := List.mem_map.mp hx
    simp
def fMax1Q : LF := fun ds S => match ds with
  | [.pd (.tuple xs)] => (match intsL xs with
    | some (n :: ns) => .ok (.int (mostI (n :: ns))) S
    | _ => .stuck)
  | ds => fMax1 ds S
section
variable {X : Cx} {g : G} {L : List Addr} {H : Hp} {S : Sto}
theorem dz_ints_dp {K : PySem.W.Frag} {W : Addr → Prop} : ∀ {ns : List Int} {vs : List V}, DzAll K W H vs (ns.map .int) → DpAll K H vs (ns.map .int)
  | [], _, .nil => .nil
  | _ :: _, _, .cons (.int _) h => .cons (.int _) (dz_ints_dp h)
theorem cx_max1Q (hk : X.K = g.K) (hc : X.calm = true) (hu : X.A.units + 64 < cLine) : CallX X g (.builtin "max") fMax1Q := by
  intro E pins s σ H xs us Q I r h
  obtain ⟨L, S, ds, rp, dn, ev⟩ := h
  unfold fMax1Q at ev
  split at ev
  · rename_i xs
    split at ev
    · rename_i n ns en
      cases dn with
      | cons d1 d2 =>
        cases d2
        obtain ⟨a, vs, rfl, rd, dz⟩ := den_tup d1
        rw [intsL_eq en] at dz
        rw [← hk] at rd
        obtain ⟨its, rv, pl, _⟩ := I.tuple rd
        have dp := dz_ints_dp dz
        rw [← hk] at dp
        obtain ⟨as, ra⟩ := Dp.readsAll I _ _ _ dp rv
        rw [Vals.ref1 r]
        refine PySem.W.max_tuple_data (x := .int n) (xs := ns.map .int) (I.ok.hd hc) (show s.heap.IsTuple a its.toArray from pl) ra (alike_ints2 (n :: ns)) ?_ fun i v h' tk bs hi hr hkp => ?_
        · have := PySem.W.depth_ints (n :: ns)
          rw [List.map_cons] at this
          rw [this]
          omega
        · rw [PySem.W.maxD_ints, leastmost_fold] at hr
          cases hr
          exact ⟨.int _, H, I.kept hkp, ⟨_, rfl⟩, fin_val rp ev (.pd (.int _))⟩
    · exact ev.elim
  · exact cx_max1 hc E pins s σ H _ us Q I r ⟨L, S, ds, rp, dn, ev⟩
end
/-! ### what is handed back stands by itself, lists in lists too -/
mutual
def frzD (k : Nat) (S : Sto) : Nat → D → Option PyData
  | _, .pd x => some x
  | 0, _ => none
  | f + 1, .ref n => if k ≤ n then (match S[n]? with
    | some (.lst xs) => (frzL k S f xs).map .list
    | _ => none) else none
  | _, .glob _ => none
  | _, .xt _ => none
def frzL (k : Nat) (S : Sto) : Nat → List D → Option (List PyData)
  | _, [] => some []
  | f, x :: r => match frzD k S f x, frzL k S f r with
    | some a, some b => some (a :: b)
    | _, _ => none
end
def finD (k : Nat) (d : D) (S : Sto) : Out D := match frzD k S 3 d with
  | some x => if (S.take k).all pdOb = true then .ok (.pd x) (S.take k) else .stuck
  | none => .stuck
def runFD (n : Nat) (m : DM Fl) : DF := fun ds S => match m (startD n ds) S with
  | .ok (.ret d) S' => finD S.length d S'
  | .ok (.next _) S' => finD S.length .non S'
  | .ok _ _ => .stuck
  | .exc e _ S' => if (S'.take S.length).all pdOb = true ∧ (e.fs.all fun p => noRef p.2) = true then .exc e [] (S'.take S.length) else .stuck
  | .stuck => .stuck
section
variable {g : G} {E : WX} {L : List Addr} {H : Hp} {S : Sto} {as : List Addr}
theorem ref_new {n : Nat} {a : Addr} (hg : g.as = as) (r : RepS g L S H) (hk : as.length ≤ n) (hn : L[n]? = some a) : ¬ g.wr as a := by
  have hna : a ∉ g.as := by
    intro hm
    obtain ⟨j, hj, ej⟩ := List.mem_iff_getElem.mp hm
    obtain ⟨t, ht⟩ := r.pre
    have e1 : L[j]? = some a := by rw [← ht, List.getElem?_append_left hj, List.getElem?_eq_getElem hj, ej]
    have e2 := List.getElem?_eq_some_iff.mp e1
    have e3 := List.getElem?_eq_some_iff.mp hn
    have := (List.getElem_inj r.nd).mp (e2.2.trans e3.2.symm)
    rw [hg] at hj
    omega
  exact fun w => w.elim (r.own a (List.mem_of_getElem? hn) hna) fun z => hna (by rw [hg]; exact z)
theorem frzD_ok (hg : g.as = as) (r : RepS g L S H) : ∀ (f : Nat) {d : D} {v : V} {x : PyData}, Den g L H d v → frzD as.length S f d = some x → Dz g.K (g.wr as) H v x := by
  have sub : ∀ {d : PyData} {v : V}, Dz g.K (g.wr L) H v d → Dz g.K (g.wr as) H v d := fun h => h.anti fun b w => w.imp id fun z => mem_pre r.pre (by rw [hg]; exact z)
  intro f
  induction f with
  | zero =>
    intro d v x dn e
    cases d with
    | pd y =>
      cases dn with
      | pd h => unfold frzD at e; cases e; exact sub h
    | ref n => unfold frzD at e; cases e
    | glob y => unfold frzD at e; cases e
    | xt y => unfold frzD at e; cases e
  | succ f ih =>
    intro d v x dn e
    cases d with
    | pd y =>
      cases dn with
      | pd h => unfold frzD at e; cases e; exact sub h
    | glob y => unfold frzD at e; cases e
    | xt y => unfold frzD at e; cases e
    | ref n =>
      unfold frzD at e
      cases dn with
      | @ref _ a hn =>
        split at e
        · rename_i hk
          split at e
          · rename_i xs hs
            cases q : frzL as.length S f xs with
            | none => rw [q] at e; cases e
            | some ys =>
              rw [q] at e
              cases e
              obtain ⟨a', ha, od⟩ := r.ob hs
              rw [hn] at ha
              cases ha
              cases od with
              | @lst _ vs q2 ds =>
                have all : ∀ {xs : List D} {vs : List V} {ys : List PyData}, Dens g L H xs vs → frzL as.length S f xs = some ys → DzAll g.K (g.wr as) H vs ys := by
                  intro xs vs ys hd
                  induction hd generalizing ys with
                  | nil => intro e; unfold frzL at e; cases e; exact .nil
                  | cons h1 _ ih2 =>
                    intro e
                    unfold frzL at e
                    split at e
                    · rename_i a b ea eb
                      cases e
                      exact .cons (ih h1 ea) (ih2 eb)
                    · cases e
                exact .lst (ref_new hg r hk hn) (.inl q2) (all ds q)
          · cases e
        · cases e
end
theorem Fun.dlD {P : Program} {w : World} {K : PySem.W.Frag} {mg : Str → Option Value} {base : Heap} {x qual : Str} {st : Stmt} {f : Addr} {fd : FuncData} {N ps : List Str} {k : Nat} {m : DM Fl} (F : Fun K x qual st f fd) (Sc : FnScope N ps (defScope st))
    (hb : ∀ (cdv : Value) (A : Around) (outer : List Env) (s : Shared) (H : Hp) (E : XK) (W : Addr → Prop) (as : List Addr), RoomG k (A.deeper (envOfC qual (defScope st) s.heap.objs.size f cdv)) →
      PSs (cxOf (L2.CX P w) P w K mg base N qual (defScope st) f cdv A outer s H E) (defBody st) (TSt ⟨K, mg, W, H, as⟩ (fun c d _ H => E c d H) m)) :
    FnG P w K mg base (k + 1) f fd ps (spM K mg ps.length (runFD N.length m)) := by
  refine Fun.okG F Sc (fun vs H Q E h => h.1) (fun cdv A outer s H vs Q E hr h => ?_)
  obtain ⟨hl, W, as, ds, S, rp, dn, ev⟩ := h
  refine ⟨_, hb cdv A outer s H E W as hr, as, startD N.length ds, S, rp, startD_sl dn, ?_⟩
  have hS : S.length = as.length := Paired.len rp.obs
  unfold runFD at ev
  cases em : m (startD N.length ds) S with
  | ok fl S' =>
    rw [em] at ev
    have done : ∀ d, Ev ⟨K, mg, W, H, as⟩ (fun c x _ H' => E c x H') as H (finD S.length d S') (PV ⟨K, mg, W, H, as⟩ Q) →
        ∀ L' H', Ext ⟨K, mg, W, H, as⟩ as H L' H' → RepS ⟨K, mg, W, H, as⟩ L' S' H' → ∀ v, Den ⟨K, mg, W, H, as⟩ L' H' d v → Q v H' := by
      intro d ev L' H' x r v dn'
      unfold finD at ev
      split at ev
      · rename_i d' ed
        split at ev
        · rename_i hp
          rw [hS] at ev ed hp
          exact ev as H' x.trim (r.trim hp) v (.pd (frzD_ok rfl r 3 dn' ed))
        · exact ev.elim
      · exact ev.elim
    cases fl with
    | ret d => exact fun L' H' x r v dn' => done d ev L' H' x r v dn'
    | next σ => exact fun L' H' x r σ _ => done .non ev L' H' x r .non (.pd .non)
    | brk σ => exact ev.elim
    | cont σ => exact ev.elim
  | exc e σ S' =>
    rw [em] at ev
    dsimp only at ev
    split at ev
    · rename_i hp
      rw [hS] at ev hp
      intro L' H' c x σ y r sl ex
      exact ev as H' c x [] y.trim (r.trim hp.1) (fun i d z => by simp at z) (ex.move rfl rfl (fun b w => w.imp id fun z => mem_pre r.pre z) hp.2)
    · exact ev.elim
  | stuck => rw [em] at ev; exact ev.elim
section
variable {g : G} {E : WX} {X : Cx} {a : Expr} {ma : DM D}
theorem px_tupRg1K (hc : X.calm = true) (hg : Gl X "tuple") (hm : X.mg "tuple" = none) (hg2 : Gl X "range") (hm2 : X.mg "range" = none) (ha : PE X a (T g E ma)) {p pos p2 pos2 : Pos} (na : starEach [a] X.env = (false, eval a X.env) :: starEach [] X.env)
    (nb : starEach [.Call (.Name "range" p2) [a] [] pos2] X.env = (false, eval (.Call (.Name "range" p2) [a] [] pos2) X.env) :: starEach [] X.env) :
    PE X (.Call (.Name "tuple" p) [.Call (.Name "range" p2) [a] [] pos2] [] pos) (T g E (eRg1 true ma)) :=
  px_tupRg1 hc hg hm hg2 hm2 ha na nb
end
end DL
end
section
namespace DL
open PySem PySem.Spec PyProof.Rows L2
/-! ### a tuple of which it is known that it has no dict (D.xt): tuple(list); its count -/
def wk : D → D := fun d => match d with
  | .xt ds => .tup ds
  | d => d
section
variable {g : G} {E : WX} {L : List Addr} {H : Hp} {S : Sto} {σd : Sl} {σ : L2.St} {v : V} {d : D} {X : Cx} {pos : Pos}
theorem Den.wk (h : Den g L H d v) : Den g L H (wk d) v := by
  cases h with
  | xt e hd z => exact .pd (.tup (.inl (.inr ⟨_, e⟩)) z)
  | pd h => exact .pd h
  | ref h => exact .ref h
  | glob h => exact .glob h
def eVarW (i : Nat) : DM D := fun σ S => match σ[i]? with
  | some (some d) => .ok (DL.wk d) S
  | _ => .stuck
theorem pd_varW (i : Nat) {x : Str} (hN : X.N[i]? = some x := by rfl) (hv : Vis X.env.scope x := by first | exact Or.inl rfl | exact Or.inr (Or.inl rfl) | exact Or.inr (Or.inr rfl)) (hd : (x == ("__debug__" : Str)) = false := by decide)
    (hcd : (x == ("__classdict__" : Str)) = false := by decide) : PE X (.Name x pos) (T g E (eVarW i)) :=
  PE.imp (pe_var hN hv hd hcd) fun σ H Q ⟨L, σd, S, r, sl, ev⟩ => by
    unfold eVarW at ev
    split at ev
    · rename_i d e
      obtain ⟨v, e', dn⟩ := sl i d e
      exact ⟨v, e', ev.ok r v dn.wk⟩
    · exact ev.elim
theorem fin_xt {Q : VK} {ds : List PyData} {vs : List V} {o : Obj} (ho : o.dict = none) (r : RepS g L S H) (ev : Ev g E L H (.ok (.xt ds) S) (PV g Q)) (z : DzAll g.K (g.wr L) H vs ds) {p : Addr} (n : H p = none) : Q (.ref p) (upd H p (.frz o (.tup vs))) :=
  ev L _ (Ext.new1 n) (r.new1 n) _ (.xt upd_same ho (z.new r n))
def fTupleX : LF := fun ds S => match ds with
  | [d] => match asL S d with
    | some ys => match pdL ys with
      | some zs => .ok (.xt zs) S
      | none => .stuck
    | none => .stuck
  | _ => .stuck
theorem cx_tupleX : CallX X g (.type "tuple") fTupleX := by
  intro E pins s σ H xs us Q I r h
  obtain ⟨L, S, ds, rp, dn, ev⟩ := h
  unfold fTupleX at ev
  split at ev
  · cases dn with
    | cons d1 d2 =>
      cases d2
      split at ev
      · rename_i ys ey
        split at ev
        · rename_i zs ez
          obtain ⟨a, vs, rfl, rd, dz⟩ := asL_ok rp d1 ey
          have z := dens_dz (pdL_eq ez ▸ dz)
          rw [Vals.ref1 r]
          obtain ⟨its, rv, pl, hz⟩ := I.list (.inl rd)
          have hn := rv.length
          refine call_tuple_list pl.isList (fun h1 kp => ?_) (by rw [List.size_toArray]; omega)
          have J : Inv X pins σ H ⟨h1, s.gens, s.drawn, s.toks, s.os⟩ := I.kept (t' := s.toks) kp
          have fr := J.hok.fresh (Nat.le_refl _)
          have J2 := J.laid (o := .frz { cls := .type "tuple", data := .seq its.toArray } (.tup vs)) (t' := s.toks) (fun b o e => Heap.get?_push_of_some { cls := .type "tuple", data := .seq its.toArray } e) (Nat.le_refl _) ⟨Heap.get?_push_size _ rfl, hz, its, rv, IsTup.new _ _⟩
          exact ⟨.ref h1.objs.size, _, J2, rfl, fin_xt rfl rp ev z fr⟩
        · exact ev.elim
      · exact ev.elim
  · exact ev.elim
def tyX (x : V) (H : Hp) : Prop := ∃ a o vs, x = .ref a ∧ H a = some (.frz o (.tup vs)) ∧ o.dict = none
theorem ty_tupX : TyOk X "tuple" tyX := by
  intro pins σ H s x v I r ty
  obtain ⟨a, o, vs, rfl, e, hd⟩ := ty
  cases r
  obtain ⟨ho, hz, its, rv, it⟩ := I.hok a _ e
  refine ⟨it.typeIs, fun b eb => ?_⟩
  cases eb
  exact ⟨o, ho, hd⟩
def rCnt (K : PySem.W.Frag) (x : V) (xs : List V) (H : Hp) (Q : VK) : Prop := ∃ (a : Addr) (vs : List V) (ns : List Int) (i : Int), x = .ref a ∧ SqT K H a vs ∧ xs = [.int i] ∧ DpAll K H vs (ns.map .int) ∧ Q (.int (ns.count i : Nat)) H
theorem plain_ints : ∀ ns : List Int, PyData.plainAll (ns.map .int) = true
  | [] => rfl
  | n :: ns => by rw [List.map_cons, PyData.plainAll, plain_ints ns]; rfl
theorem count_ints (i : Int) : ∀ ns : List Int, ((ns.map PyData.int).countP fun y => PyData.eqv y (.int i)) = ns.count i
  | [] => rfl
  | n :: ns => by
    rw [List.map_cons, List.countP_cons, List.count_cons, count_ints i ns]
    rfl
theorem mt_cntX (hu : X.A.units + 64 < cLine) : MtR X "tuple.count" (rCnt X.K) := by
  intro pins s σ H x xs v us Q I rx rxs h
  obtain ⟨a, vs, ns, i, rfl, hs, rfl, z, q⟩ := h
  cases rx
  obtain ⟨its, rv, pl, _⟩ := I.tuple hs
  obtain ⟨as, ra⟩ := Dp.readsAll I _ _ _ z rv
  obtain ⟨u, rfl, ru⟩ := vals1 rxs
  obtain ⟨bs, rb⟩ := Dp.reads I _ _ u (.int i) ru
  have hu' : X.A.units + 1 + min (PyData.depthAll (ns.map .int)) (PyData.int i).depth < cLine := by
    rw [PySem.W.depth_ints]; omega
  refine SeqAt.count_tuple_data pl ra rb (plain_ints ns) rfl hu' ?_
  rw [count_ints i ns]
  exact ⟨.int _, H, I.kept (t' := s.toks + 1) (h' := s.heap) fun _ _ e => e, ⟨_, rfl⟩, q⟩
def opCnt (ds : List PyData) : List D → Sto → Out D := fun es S => match es with
  | [.pd (.int i)] => match intsL ds with
    | some ns => .ok (.int (ns.count i : Nat)) S
    | none => .stuck
  | _ => .stuck
def eCntX (mo : DM D) (ml : DM (List D)) : DM D := mBind mo fun d => fun σ S => match d with
  | .xt ds => mBind ml (fun es => fun _ S => opCnt ds es S) σ S
  | _ => .stuck
variable {o e : Expr} {es : List Expr} {mo : DM D} {ml : DM (List D)} {apos cpos : Pos}
theorem px_cntX (hk : X.K = g.K) (hu : X.A.units + 64 < cLine) (ho : PE X o (T g E mo)) (ha : PA X (e :: es) (TL g E ml))
    (hbase : attributeBase o "count" X.env (eval o X.env) = eval o X.env := by rfl)
    (hfew : ((backTo cpos (starEach (e :: es) X.env)).all (fun x => !x.1) && (backToKw cpos (keywordEach [] X.env)).all (fun x => x.1.isSome)
      && decide ((e :: es).length + ([] : List Keyword).length + (if ([] : List Keyword).isEmpty then 0 else 1) < 30)) = true := by rfl)
    (hline : (apos.endLine == cpos.line) = true := by rfl) (hs : starEach (e :: es) X.env = (false, eval e X.env) :: starEach es X.env := by rfl) (hplain : (backTo cpos (starEach es X.env)).any (·.1) = false := by rfl) :
    PE X (.Call (.Attribute o "count" apos) (e :: es) [] cpos) (T g E (eCntX mo ml)) :=
  PE.imp (pe_mG ty_tupX PySem.F.plainAttrs_tuple PySem.F.slot_tuple_count PySem.F.type_tuple_count (mt_cntX hu) ho ha hbase hfew hline hs hplain) fun σ H Q ⟨L, σd, S, rp, sl, ev⟩ => ⟨L, σd, S, rp, sl, ev.step fun d S1 L1 H1 x1 r1 ev1 v dn => by
    split at ev1
    · rename_i ds
      cases dn with
      | @xt _ a vs ob ea hd z =>
        refine ⟨⟨a, ob, vs, rfl, ea, hd⟩, L1, σd, S1, r1, sl.ext rp x1, ev1.step fun es S2 L2 H2 x2 r2 ev2 ws dns => ?_⟩
        have dn2 : Den g L2 H2 (.xt ds) (.ref a) := Den.ext r1 x2 (.xt ea hd z)
        unfold opCnt at ev2
        split at ev2
        · rename_i i
          split at ev2
          · rename_i ns en
            cases dns with
            | cons d1 d2 =>
              cases d2
              cases den_int d1
              cases dn2 with
              | @xt _ _ vs2 ob2 ea2 hd2 z2 =>
                rw [intsL_eq en] at z2
                have z3 := dz_ints_dp z2
                rw [← hk] at z3
                exact ⟨a, vs2, ns, i, rfl, .inl (.inr ⟨ob2, ea2⟩), rfl, z3, fin_val r2 ev2 (.pd (.int _))⟩
          · exact ev2.elim
        · exact ev2.elim
    · exact ev1.elim⟩
end
end DL
end
section
namespace DL
open PySem PySem.Spec PyProof.Rows L2
section
variable {g : G} {E : WX} {L : List Addr} {H : Hp} {S : Sto} {X : Cx} {pos : Pos} {u : TgsD}
/-! ### a, b = a list -/
def gLst (K : PySem.W.Frag) (n : Nat) (t : TGs) : TG := fun v σ H Q => ∃ a xs, v = .ref a ∧ SqL K H a xs ∧ xs.length = n ∧ t xs σ H Q
theorem pg_lst {es : List Expr} {k n : Nat} {t : TGs} (hc : X.calm = true) (h : PGs X es t) (hn : (assignEach es X.env).length = n := by rfl) (hst : (assignEach es X.env).findIdx? (·.1) = none := by rfl) : PG X (.Tuple es k pos) (gLst X.K n t) := by
  refine ⟨fun pins s σ H v u Q I r hw => ?_⟩
  obtain ⟨a, xs, e1, hq, hl, hw⟩ := hw
  subst e1
  cases r
  obtain ⟨its, rv, pl, _⟩ := I.list hq
  have hz : n = its.toArray.size := by rw [← hl, List.size_toArray]; exact rv.length
  rw [PyProof.Rows.assign_Tuple]
  refine wpAny_bind (wpAny_standAt ?_)
  unfold unpack
  rw [hn, hst, hz]
  refine wpAny_bind (wpAny_holding (PySem.W.kun_itemsOf (I.ok.hd hc) pl.isList fun h1 hx => ?_))
  have J : Inv X pins σ H ⟨h1, s.gens, s.drawn, s.toks, s.os⟩ := I.kept (t' := s.toks) fun b o e => hx b o (Nat.ne_of_lt (Heap.lt_size e)) e
  exact h.run pins _ σ H xs _ Q J rv hw
def tgLst (t : TgsD) : TgD := fun d σ => match d with
  | .pd (.list ds) => t (ds.map .pd) σ
  | _ => none
theorem GT.lst {es : List Expr} {k n : Nat} (hK : X.K = g.K) (hc : X.calm = true) (h : PGs X es (GTs g u)) (hn : (assignEach es X.env).length = n := by rfl) (hst : (assignEach es X.env).findIdx? (·.1) = none := by rfl)
    (hu : ∀ ds σd σd', u ds σd = some σd' → ds.length = n) : PG X (.Tuple es k pos) (GT g (tgLst u)) :=
  PG.imp (pg_lst hc h hn hst) fun v σ H Q ⟨L, σd, S, d, σd', rp, sl, dn, e, q⟩ => by
    unfold tgLst at e
    split at e
    · rename_i ds
      obtain ⟨a, vs, rfl, rd, dz⟩ := den_lst dn
      refine ⟨a, vs, rfl, .inl rd, ?_, L, σd, S, _, σd', rp, sl, dz.dens, e, q⟩
      rw [dz.len, ← hu _ _ _ e, List.length_map]
    · cases e
/-! ### sum of a tuple -/
def fSum1Q : LF := fun ds S => match ds with
  | [.pd (.tuple xs)] => (match intsL xs with
    | some ns => .ok (.int ns.sum) S
    | none => .stuck)
  | ds => fSum1 ds S
theorem dz_ints_v {K : PySem.W.Frag} {W : Addr → Prop} : ∀ {ns : List Int} {vs : List V}, DzAll K W H vs (ns.map .int) → vs = ns.map V.int
  | [], _, .nil => rfl
  | _ :: _, _, .cons (.int _) h => by rw [List.map_cons, dz_ints_v h]
theorem cx_sum1Q (hk : X.K = g.K) (hc : X.calm = true) : CallX X g (.builtin "sum") fSum1Q := by
  intro E pins s σ H xs us Q I r h
  obtain ⟨L, S, ds, rp, dn, ev⟩ := h
  unfold fSum1Q at ev
  split at ev
  · rename_i xs
    split at ev
    · rename_i ns en
      cases dn with
      | cons d1 d2 =>
        cases d2
        obtain ⟨a, vs, rfl, rd, dz⟩ := den_tup d1
        rw [intsL_eq en] at dz
        rw [← hk] at rd
        obtain ⟨its, rv, pl, _⟩ := I.tuple rd
        rw [dz_ints_v dz] at rv
        have hi := rv.ints
        obtain ⟨zs, hz⟩ := hi.allInts.items
        have hn : numsOf its.toArray.toList = ns := by rw [show its.toArray.toList = its from rfl, hi.numsOf]
        have pl2 : s.heap.IsTuple a its.toArray := pl
        rw [hz] at pl2 hn
        rw [nums_intItems] at hn
        rw [Vals.ref1 r]
        refine PySem.W.ktm_sumG (I.ok.hd hc) pl2 fun h1 tk t1 hkp => ?_
        rw [preSum_eq, List.take_of_length_le (by simp), hn]
        exact ⟨.int _, H, I.kept hkp, ⟨_, rfl⟩, fin_val rp ev (.pd (.int _))⟩
    · exact ev.elim
  · exact cx_sum1 hc E pins s σ H _ us Q I r ⟨L, S, ds, rp, dn, ev⟩
/-! ### min, max of a tuple with default -/
def fMinDf : List D → List D → Sto → Out D := fun ds ks S => match ds with
  | [.pd (.tuple xs)] => (match ks with
    | [.pd (.int k)] => (match intsL xs with
      | some [] => .ok (.int k) S
      | some (n :: ns) => .ok (.int (ns.foldl min n)) S
      | none => .stuck)
    | _ => .stuck)
  | _ => .stuck
def fMaxDf : List D → List D → Sto → Out D := fun ds ks S => match ds with
  | [.pd (.tuple xs)] => (match ks with
    | [.pd (.int k)] => (match intsL xs with
      | some [] => .ok (.int k) S
      | some (n :: ns) => .ok (.int (ns.foldl max n)) S
      | none => .stuck)
    | _ => .stuck)
  | _ => .stuck
def CallKX (X : Cx) (g : G) (id : String) (ks : List Str) (f : List D → List D → Sto → Out D) : Prop :=
  ∀ E : WX, CallRK X (.builtin id) ks fun xs zs H Q => ∃ L S ds es, RepS g L S H ∧ Dens g L H ds xs ∧ Dens g L H es zs ∧ Ev g E L H (f ds es S) (PV g Q)
theorem cx_minDf (hk : X.K = g.K) (hc : X.calm = true) (hu : X.A.units + 64 < cLine) : CallKX X g "min" ["default"] fMinDf := by
  intro E pins s σ H xs zs us ws Q I r rz h
  obtain ⟨L, S, ds, es, rp, dn, de, ev⟩ := h
  unfold fMinDf at ev
  split at ev
  · rename_i xs
    split at ev
    · rename_i k
      cases dn with
      | cons d1 d2 =>
        cases d2
        cases de with
        | cons e1 e2 =>
          cases e2
          cases den_int e1
          obtain ⟨a, vs, rfl, rd, dz⟩ := den_tup d1
          obtain ⟨w1, rfl, rw1⟩ := vals1 rz
          rw [Vals.ref1 r]
          rw [← hk] at rd
          obtain ⟨its, rv, pl, _⟩ := I.tuple rd
          have pl2 : s.heap.IsTuple a its.toArray := pl
          cases en : intsL xs with
          | none => rw [en] at ev; exact ev.elim
          | some ns =>
            rw [intsL_eq en] at dz
            have dp := dz_ints_dp dz
            rw [← hk] at dp
            obtain ⟨as, ra⟩ := Dp.readsAll I _ _ _ dp rv
            rw [en] at ev
            refine PySem.W.min_tuple_default (I.ok.hd hc) pl2 ra (alike_ints2 ns) (by rw [PySem.W.depth_ints]; omega) (fun e h1 tk hkp => ?_) fun y ys i v h1 tk bs e hi hr hkp => ?_
            · cases ns with
              | nil => exact ⟨.int k, H, I.kept hkp, rw1, fin_val rp ev (.pd (.int _))⟩
              | cons n ns => cases e
            · cases ns with
              | nil => cases e
              | cons n ns =>
                cases e
                rw [PySem.W.minD_ints] at hr
                cases hr
                exact ⟨.int _, H, I.kept hkp, ⟨_, rfl⟩, fin_val rp ev (.pd (.int _))⟩
    · exact ev.elim
  · exact ev.elim
theorem cx_maxDf (hk : X.K = g.K) (hc : X.calm = true) (hu : X.A.units + 64 < cLine) : CallKX X g "max" ["default"] fMaxDf := by
  intro E pins s σ H xs zs us ws Q I r rz h
  obtain ⟨L, S, ds, es, rp, dn, de, ev⟩ := h
  unfold fMaxDf at ev
  split at ev
  · rename_i xs
    split at ev
    · rename_i k
      cases dn with
      | cons d1 d2 =>
        cases d2
        cases de with
        | cons e1 e2 =>
          cases e2
          cases den_int e1
          obtain ⟨a, vs, rfl, rd, dz⟩ := den_tup d1
          obtain ⟨w1, rfl, rw1⟩ := vals1 rz
          rw [Vals.ref1 r]
          rw [← hk] at rd
          obtain ⟨its, rv, pl, _⟩ := I.tuple rd
          have pl2 : s.heap.IsTuple a its.toArray := pl
          cases en : intsL xs with
          | none => rw [en] at ev; exact ev.elim
          | some ns =>
            rw [intsL_eq en] at dz
            have dp := dz_ints_dp dz
            rw [← hk] at dp
            obtain ⟨as, ra⟩ := Dp.readsAll I _ _ _ dp rv
            rw [en] at ev
            refine PySem.W.max_tuple_default (I.ok.hd hc) pl2 ra (alike_ints2 ns) (by rw [PySem.W.depth_ints]; omega) (fun e h1 tk hkp => ?_) fun y ys i v h1 tk bs e hi hr hkp => ?_
            · cases ns with
              | nil => exact ⟨.int k, H, I.kept hkp, rw1, fin_val rp ev (.pd (.int _))⟩
              | cons n ns => cases e
            · cases ns with
              | nil => cases e
              | cons n ns =>
                cases e
                rw [PySem.W.maxD_ints] at hr
                cases hr
                exact ⟨.int _, H, I.kept hkp, ⟨_, rfl⟩, fin_val rp ev (.pd (.int _))⟩
    · exact ev.elim
  · exact ev.elim
def eCallK (f : List D → List D → Sto → Out D) (ml mk : DM (List D)) : DM D := mBind ml fun ds => mBind mk fun ks => fun _ S => f ds ks S
variable {x : Str} {p kpos : Pos} {e k : Expr} {es : List Expr} {ml : DM (List D)} {mk : DM D} {id : String} {f : List D → List D → Sto → Out D} {nm : Str}
theorem px_callBK1 (hc : CallKX X g id [nm] f) (hg : Gl X x) (hm : X.mg x = none) (hv : bootBuiltins x = some (.builtin id)) (ha : PA X (e :: es) (TL g E ml)) (hk : PE X k (T g E mk)) (hn : x ≠ "__name__" := by decide) (hdb : (x == ("__debug__" : Str)) = false := by decide)
    (he : backTo pos (starEach (e :: es) X.env) = (false, eval e X.env) :: backTo pos (starEach es X.env) := by rfl) (hpl : (backTo pos (starEach (e :: es) X.env)).any (·.1) = false := by rfl)
    (hall : (backToKw pos (keywordEach [⟨some nm, k, kpos⟩] X.env)).all (·.1.isSome) = true := by rfl) (hnone : (backToKw pos (keywordEach [⟨some nm, k, kpos⟩] X.env)).any (·.1.isNone) = false := by rfl) (hks : (backToKw pos (keywordEach [⟨some nm, k, kpos⟩] X.env)).filterMap (·.1) = [nm] := by rfl) :
    PE X (.Call (.Name x p) (e :: es) [⟨some nm, k, kpos⟩] pos) (T g E (eCallK f ml (lCons mk lNil))) :=
  PE.imp (pe_callBK (hc E) hg hm hv ha (pk_cons hk pk_nil) hn hdb he hpl hall hnone hks) fun σ H Q ⟨L, σd, S, rp, sl, ev⟩ => ⟨L, σd, S, rp, sl, ev.step fun ds S1 L1 H1 x1 r1 ev1 vs dns =>
    ⟨L1, σd, S1, r1, sl.ext rp x1, (Ev.bind (Ev.bind ev1)).imp fun d S2 L2 H2 x2 r2 ev2 v dn => ⟨L2, S2, ds, [d], r2, Dens.ext r1 x2 dns, .cons dn .nil, (show Ev g E L2 H2 (Out.ok [d] S2) (fun a S' L' H' => Ev g E L' H' (f ds a S') (PV g Q)) from ev2) L2 H2 Ext.refl r2⟩⟩⟩
/-! ### min of a tuple; a, b = a list or a tuple -/
def fMin1Q : LF := fun ds S => match ds with
  | [.pd (.tuple xs)] => (match intsL xs with
    | some (n :: ns) => .ok (.int (ns.foldl min n)) S
    | _ => .stuck)
  | ds => fMin1 ds S
theorem cx_min1Q (hk : X.K = g.K) (hc : X.calm = true) (hu : X.A.units + 64 < cLine) : CallX X g (.builtin "min") fMin1Q := by
  intro E pins s σ H xs us Q I r h
  obtain ⟨L, S, ds, rp, dn, ev⟩ := h
  unfold fMin1Q at ev
  split at ev
  · rename_i xs
    split at ev
    · rename_i n ns en
      cases dn with
      | cons d1 d2 =>
        cases d2
        obtain ⟨a, vs, rfl, rd, dz⟩ := den_tup d1
        rw [intsL_eq en] at dz
        rw [← hk] at rd
        obtain ⟨its, rv, pl, _⟩ := I.tuple rd
        have dp := dz_ints_dp dz
        rw [← hk] at dp
        obtain ⟨as, ra⟩ := Dp.readsAll I _ _ _ dp rv
        rw [Vals.ref1 r]
        refine PySem.W.min_tuple_data (x := .int n) (xs := ns.map .int) (I.ok.hd hc) (show s.heap.IsTuple a its.toArray from pl) ra (alike_ints2 (n :: ns)) ?_ fun i v h' tk bs hi hr hkp => ?_
        · have := PySem.W.depth_ints (n :: ns)
          rw [List.map_cons] at this
          rw [this]
          omega
        · rw [PySem.W.minD_ints] at hr
          cases hr
          exact ⟨.int _, H, I.kept hkp, ⟨_, rfl⟩, fin_val rp ev (.pd (.int _))⟩
    · exact ev.elim
  · exact cx_min1 hc E pins s σ H _ us Q I r ⟨L, S, ds, rp, dn, ev⟩
def tgSq (t : TgsD) : TgD := fun d σ => match d with
  | .pd (.list ds) => t (ds.map .pd) σ
  | .pd (.tuple ds) => t (ds.map .pd) σ
  | _ => none
def gSeq (K : PySem.W.Frag) (n : Nat) (t : TGs) : TG := fun v σ H Q => gLst K n t v σ H Q ∨ gTup K n t v σ H Q
theorem GT.sq {es : List Expr} {k n : Nat} (hK : X.K = g.K) (hc : X.calm = true) (h : PGs X es (GTs g u)) (hn : (assignEach es X.env).length = n := by rfl) (hst : (assignEach es X.env).findIdx? (·.1) = none := by rfl)
    (hu : ∀ ds σd σd', u ds σd = some σd' → ds.length = n) : PG X (.Tuple es k pos) (GT g (tgSq u)) := by
  have both : PG X (.Tuple es k pos) (gSeq X.K n (GTs g u)) := ⟨fun p s σ H v w Q I r q => q.elim ((pg_lst hc h hn hst).run p s σ H v w Q I r) ((pg_tup hc h hn hst).run p s σ H v w Q I r)⟩
  refine PG.imp both fun v σ H Q ⟨L, σd, S, d, σd', rp, sl, dn, e, q⟩ => ?_
  unfold tgSq at e
  split at e
  · rename_i ds
    obtain ⟨a, vs, rfl, rd, dz⟩ := den_lst dn
    refine .inl ⟨a, vs, rfl, .inl rd, ?_, L, σd, S, _, σd', rp, sl, dz.dens, e, q⟩
    rw [dz.len, ← hu _ _ _ e, List.length_map]
  · rename_i ds
    obtain ⟨a, vs, rfl, rd, dz⟩ := den_tup dn
    rw [← hK] at rd
    refine .inr ⟨a, vs, rfl, rd, ?_, L, σd, S, _, σd', rp, sl, dz.dens, e, q⟩
    rw [dz.len, ← hu _ _ _ e, List.length_map]
  · cases e
theorem px_isiK {a : Expr} {ma : DM D} {p2 : Pos} (hk : X.K = g.K) (t : TyN) {y : Str} (hy : y = Str.ofString t.nm) (hg : Gl X "isinstance") (hm : X.mg "isinstance" = none) (hg2 : Gl X y) (hm2 : X.mg y = none) (ha : PE X a (T g E ma))
    (he : starEach [a, .Name y p2] X.env = (false, eval a X.env) :: starEach [.Name y p2] X.env) : PE X (.Call (.Name "isinstance" p) [a, .Name y p2] [] pos) (T g E (eIsI t ma)) := px_isi hk t hy hg hm hg2 hm2 ha he
end
end DL
end
section
set_option maxHeartbeats 1000000
namespace DLZ
open PySem
open PySem.Sem (wp)
/-! ### zip(a, b, strict=True) of two tuples -/
/-- a strict zip as it lies in the heap -/
abbrev SZ (h : Heap) (z tI tO : Addr) (f : Value) : Prop := h.get? z = some { cls := .type "zip", dict := none, data := .fields #[f, .bool false, .bool true, .ref tI, .ref tO], slots := #[] }
section
variable {prog : Program} {w : World} {A : Around} {E : Value → Shared → Prop} {s : Shared}
theorem orEnd_some {c l : Addr} {n : Nat} {us : Array Value} {u : Value} {Q : Option Value → Shared → Prop} (hc : s.heap.IsTupleIter c l n) (hl : s.heap.IsTuple l us) (hu : us[n]? = some u)
    (q : ∀ g, g.IsTupleIter c l (n + 1) → Heap.SameBut c s.heap g → Q (some u) { s with heap := g }) : wpAny (model prog w) A (Builtin.SmallTypes.nextOrEnd (.ref c)) Q E s := by
  unfold Builtin.SmallTypes.nextOrEnd
  exact wpAny_bind (wpAny_attempt (RZ.nextOf_tuple_item hc hl hu fun g a b => wpAny_pure (q g a b)))
theorem orEnd_none {c l : Addr} {n : Nat} {us : Array Value} {Q : Option Value → Shared → Prop} (hh : A.handled = none) (hc : s.heap.IsTupleIter c l n) (hl : s.heap.IsTuple l us) (hu : us[n]? = none)
    (q : ∀ g, Heap.ExtBut c s.heap g → Q none { s with heap := g }) : wpAny (model prog w) A (Builtin.SmallTypes.nextOrEnd (.ref c)) Q E s := by
  unfold Builtin.SmallTypes.nextOrEnd
  refine wpAny_bind (wpAny_attempt (RZ.nextOf_tuple_end hh hc hl hu fun g e k hk => ?_))
  obtain ⟨o, ho, ht⟩ := hk
  exact wpAny_bind (wpAny_isInstance (T := "StopIteration") (b := true) ⟨o, ho, ht⟩ isSubtype_stop (wpAny_pure (q g k)))
/-- StopIteration raised -/
theorem stop_raised {α : Type} {Q : α → Shared → Prop} (hh : A.handled = none) (hE : ∀ g e, (∀ b o, s.heap.get? b = some o → g.get? b = some o) → (∃ o, g.get? e = some o ∧ o.cls = .type "StopIteration") → E (.ref e) { s with heap := g }) :
    wpAny (model prog w) A (Builtin.SmallTypes.stopIteration : Sem α) Q E s := by
  unfold Builtin.SmallTypes.stopIteration
  refine wpAny_bind ?_
  simp only [newExc, newTuple]
  refine wpAny_bind (wpAny_newObj_type ?_ (by size_fits))
  refine wpAny_bind (m := firstArgMember _ _) (wpAny_of_eq (a := Value.none) (by first | rfl | (simp only [firstArgMember]; rfl)) ?_)
  refine wpAny_newObj_type ?_ (by size_fits)
  exact wpAny_raiseNew_none hh (hE _ _ (fun b o k => Heap.get?_push_of_some _ (Heap.get?_push_of_some _ k)) ⟨_, Heap.get?_push_size _ rfl, rfl⟩)
theorem zipS_item {z tI tO c1 c2 l1 l2 : Addr} {n1 n2 : Nat} {us vs : Array Value} {u v a b : Value} {Q : Value → Shared → Prop} (D : ZipApart z tI tO c1 c2 l1 l2)
    (hz : SZ s.heap z tI tO .none) (hI : IsPair s.heap tI (.ref c1) (.ref c2)) (hO : IsPair s.heap tO a b)
    (k1 : s.heap.IsTupleIter c1 l1 n1) (k2 : s.heap.IsTupleIter c2 l2 n2) (p1 : s.heap.IsTuple l1 us) (p2 : s.heap.IsTuple l2 vs) (hu : us[n1]? = some u) (hv : vs[n2]? = some v)
    (q : ∀ g, SZ g z tI tO (rawInt s.heap.objs.size) → IsPair g tO u v → g.IsTupleIter c1 l1 (n1 + 1) → g.IsTupleIter c2 l2 (n2 + 1) → IsPair g s.heap.objs.size u v → g.objs.size = s.heap.objs.size + 1 →
      (∀ d o, d ≠ z → d ≠ tO → d ≠ c1 → d ≠ c2 → s.heap.get? d = some o → g.get? d = some o) → Q (.ref s.heap.objs.size) { s with heap := g }) :
    wpAny (model prog w) A (Builtin.«zip.__next__» ⟨[.ref z], []⟩) (fun fin t => ∃ r, fin = .done (.ret r) ∧ Q r t) E s := by
  show wpAny _ _ (field (.ref z) 2 >>= _) _ _ _
  refine wpAny_bind (wpAny_field hz rfl (x := .bool true) rfl ?_)
  show wpAny _ _ (field (.ref z) 3 >>= _) _ _ _
  refine wpAny_bind (wpAny_field hz rfl (x := .ref tI) rfl (wpAny_bind (wpAny_seqItems hI rfl ?_)))
  show wpAny _ _ (Builtin.SmallTypes.ownedTupleIsFree (.ref z) >>= _) _ _ _
  refine wpAny_bind ?_
  unfold Builtin.SmallTypes.ownedTupleIsFree
  refine wpAny_bind (wpAny_field hz rfl (x := .none) rfl (wpAny_pure ?_))
  rw [if_pos rfl]
  refine wpAny_bind (wpAny_rule (wpAny_bind (wpAny_field hz rfl (x := .ref tO) rfl (wpAny_bind (wpAny_setField_rec hz (by simp) fun g1 z1 b1 => ?_)))))
  have z1 : SZ g1 z tI tO .ellipsis := z1
  refine wpAny_bind ?_
  simp only [List.zipIdx_cons, List.zipIdx_nil, List.forIn_cons, List.forIn_nil]
  refine wpAny_bind (wpAny_bind (wpAny_onRaise ?_))
  show wpAny _ _ (Builtin.SmallTypes.nextOrEnd (.ref c1)) _ _ _
  refine orEnd_some (k1.extBut b1.extBut D.i1z) (p1.extBut b1.extBut D.l1z) hu fun g2 m1 b2 => ?_
  have o2 : IsPair g2 tO a b := b2.extBut _ _ D.TOi1 (b1.extBut _ _ D.TOz hO)
  refine wpAny_bind (wpAny_seqItems o2 rfl (wpAny_bind (wpAny_updateSeq_pair o2 fun g3 o3 b3 => ?_)))
  have o3 : IsPair g3 tO u b := o3
  refine wpAny_bind (wpAny_letGo (wpAny_pure ?_))
  refine wpAny_bind (wpAny_bind (wpAny_onRaise ?_))
  show wpAny _ _ (Builtin.SmallTypes.nextOrEnd (.ref c2)) _ _ _
  refine orEnd_some (((k2.extBut b1.extBut D.i2z).extBut b2.extBut D.i12.symm).extBut b3.extBut D.TOi2.symm) (((p2.extBut b1.extBut D.l2z).extBut b2.extBut D.l2i1).extBut b3.extBut D.l2TO) hv fun g4 m2 b4 => ?_
  have o4 : IsPair g4 tO u b := b4.extBut _ _ D.TOi2 o3
  refine wpAny_bind (wpAny_seqItems o4 rfl (wpAny_bind (wpAny_updateSeq_pair o4 fun g5 o5 b5 => ?_)))
  have o5 : IsPair g5 tO u v := o5
  refine wpAny_bind (wpAny_letGo (wpAny_pure (wpAny_pure ?_)))
  refine wpAny_bind (wpAny_seqItems o5 rfl (wpAny_bind (wpAny_newTuple ?_)))
  have sz : g5.objs.size = s.heap.objs.size := by rw [b5.1, b4.1, b3.1, b2.1, b1.1]
  have z5 : SZ g5 z tI tO .ellipsis := b5.extBut _ _ D.TOz.symm (b4.extBut _ _ D.i2z.symm (b3.extBut _ _ D.TOz.symm (b2.extBut _ _ D.i1z.symm z1)))
  have all5 : ∀ d o, d ≠ z → d ≠ tO → d ≠ c1 → d ≠ c2 → s.heap.get? d = some o → g5.get? d = some o := fun d o e1 e2 e3 e4 e =>
    b5.extBut _ _ e2 (b4.extBut _ _ e4 (b3.extBut _ _ e2 (b2.extBut _ _ e3 (b1.extBut _ _ e1 e))))
  have m1 : g5.IsTupleIter c1 l1 (n1 + 1) := ((m1.extBut b3.extBut D.TOi1.symm).extBut b4.extBut D.i12).extBut b5.extBut D.TOi1.symm
  have m2 : g5.IsTupleIter c2 l2 (n2 + 1) := m2.extBut b5.extBut D.TOi2.symm
  have ltz : z < g5.objs.size := Heap.lt_size z5
  show wpAny _ _ (Builtin.SmallTypes.ownedTupleHandOut (.ref z) (.ref g5.objs.size) >>= _) _ _ _
  refine wpAny_bind ?_
  unfold Builtin.SmallTypes.ownedTupleHandOut
  have z6 : SZ (g5.push { cls := .type "tuple", data := .seq #[u, v] }) z tI tO .ellipsis := Heap.get?_push_of_some _ z5
  refine wpAny_bind (wpAny_setField_rec z6 (by simp) fun g7 z7 b7 => ?_)
  have z7 : SZ g7 z tI tO (rawInt g5.objs.size) := z7
  refine wpAny_setField_rec z7 (by simp) fun g8 z8 b8 => ?_
  have z8 : SZ g8 z tI tO (rawInt g5.objs.size) := z8
  have up : ∀ d o, d ≠ z → g5.get? d = some o → g8.get? d = some o := fun d o e1 e => b8.extBut _ _ e1 (b7.extBut _ _ e1 (Heap.get?_push_of_some _ e))
  have new : IsPair g8 g5.objs.size u v := b8.extBut _ _ (Nat.ne_of_gt ltz) (b7.extBut _ _ (Nat.ne_of_gt ltz) (Heap.get?_push_size _ rfl))
  have sz8 : g8.objs.size = g5.objs.size + 1 := by rw [b8.1, b7.1, Heap.size_push]
  rw [sz] at z8 new sz8
  refine wpAny_pure ⟨_, rfl, ?_⟩
  show Q (.ref g5.objs.size) _
  rw [sz]
  exact q g8 z8 (up _ _ D.TOz o5) (m1.at fun o e => up _ o D.i1z e) (m2.at fun o e => up _ o D.i2z e) new sz8 fun d o e1 e2 e3 e4 e => up d o e1 (all5 d o e1 e2 e3 e4 e)
theorem zipS_end {z tI tO c1 c2 l1 l2 : Addr} {n1 n2 : Nat} {us vs : Array Value} {a b : Value} {Q : Fin → Shared → Prop} (hh : A.handled = none) (D : ZipApart z tI tO c1 c2 l1 l2)
    (hz : SZ s.heap z tI tO .none) (hI : IsPair s.heap tI (.ref c1) (.ref c2)) (hO : IsPair s.heap tO a b)
    (k1 : s.heap.IsTupleIter c1 l1 n1) (k2 : s.heap.IsTupleIter c2 l2 n2) (p1 : s.heap.IsTuple l1 us) (p2 : s.heap.IsTuple l2 vs) (hu : us[n1]? = none) (hv : vs[n2]? = none)
    (hE : ∀ g e, (∀ d o, d ≠ z → d ≠ tO → d ≠ c1 → d ≠ c2 → s.heap.get? d = some o → g.get? d = some o) → (∃ o, g.get? e = some o ∧ o.cls = .type "StopIteration") → E (.ref e) { s with heap := g }) :
    wpAny (model prog w) A (Builtin.«zip.__next__» ⟨[.ref z], []⟩) Q E s := by
  show wpAny _ _ (field (.ref z) 2 >>= _) _ _ _
  refine wpAny_bind (wpAny_field hz rfl (x := .bool true) rfl ?_)
  show wpAny _ _ (field (.ref z) 3 >>= _) _ _ _
  refine wpAny_bind (wpAny_field hz rfl (x := .ref tI) rfl (wpAny_bind (wpAny_seqItems hI rfl ?_)))
  show wpAny _ _ (Builtin.SmallTypes.ownedTupleIsFree (.ref z) >>= _) _ _ _
  refine wpAny_bind ?_
  unfold Builtin.SmallTypes.ownedTupleIsFree
  refine wpAny_bind (wpAny_field hz rfl (x := .none) rfl (wpAny_pure ?_))
  rw [if_pos rfl]
  refine wpAny_bind (wpAny_rule (wpAny_bind (wpAny_field hz rfl (x := .ref tO) rfl (wpAny_bind (wpAny_setField_rec hz (by simp) fun g1 z1 b1 => ?_)))))
  have z1 : SZ g1 z tI tO .ellipsis := z1
  refine wpAny_bind ?_
  simp only [List.zipIdx_cons, List.zipIdx_nil, List.forIn_cons, List.forIn_nil]
  refine wpAny_bind (wpAny_bind (wpAny_onRaise ?_))
  show wpAny _ _ (Builtin.SmallTypes.nextOrEnd (.ref c1)) _ _ _
  refine orEnd_none hh (k1.extBut b1.extBut D.i1z) (p1.extBut b1.extBut D.l1z) hu fun g2 b2 => ?_
  have z2 : SZ g2 z tI tO .ellipsis := b2 _ _ D.i1z.symm z1
  refine wpAny_bind (wpAny_setField_rec z2 (by simp) fun g3 z3 b3 => ?_)
  refine wpAny_bind ?_
  show wpAny _ _ (forIn (m := Sem) (List.zipIdx [Value.ref c2] 1) _ _ >>= _) _ _ _
  refine wpAny_bind ?_
  simp only [List.zipIdx_cons, List.zipIdx_nil, List.forIn_cons, List.forIn_nil]
  refine wpAny_bind (wpAny_bind (orEnd_none hh (((k2.extBut b1.extBut D.i2z).extBut b2 D.i12.symm).extBut b3.extBut D.i2z) (((p2.extBut b1.extBut D.l2z).extBut b2 D.l2i1).extBut b3.extBut D.l2z) hv fun g4 b4 => ?_))
  show wpAny _ _ (pure (ForInStep.yield PUnit.unit)) _ _ _
  refine wpAny_pure ?_
  show wpAny _ _ (pure PUnit.unit) _ _ _
  refine wpAny_pure (wpAny_bind (wpAny_rule ?_))
  exact stop_raised hh fun g e h1 h2 => hE g e (fun d o e1 e2 e3 e4 q => h1 d o (b4 _ _ e4 (b3.extBut _ _ e1 (b2 _ _ e3 (b1.extBut _ _ e1 q))))) h2
/-- the next pair -/
theorem nextS_item {z tI tO c1 c2 l1 l2 : Addr} {n1 n2 : Nat} {us vs : Array Value} {u v a b : Value} {Q : Option Value → Shared → Prop} (D : ZipApart z tI tO c1 c2 l1 l2)
    (hz : SZ s.heap z tI tO .none) (hI : IsPair s.heap tI (.ref c1) (.ref c2)) (hO : IsPair s.heap tO a b)
    (k1 : s.heap.IsTupleIter c1 l1 n1) (k2 : s.heap.IsTupleIter c2 l2 n2) (p1 : s.heap.IsTuple l1 us) (p2 : s.heap.IsTuple l2 vs) (hu : us[n1]? = some u) (hv : vs[n2]? = some v)
    (q : ∀ g, SZ g z tI tO (rawInt s.heap.objs.size) → IsPair g tO u v → g.IsTupleIter c1 l1 (n1 + 1) → g.IsTupleIter c2 l2 (n2 + 1) → IsPair g s.heap.objs.size u v → g.objs.size = s.heap.objs.size + 1 →
      (∀ d o, d ≠ z → d ≠ tO → d ≠ c1 → d ≠ c2 → s.heap.get? d = some o → g.get? d = some o) → Q (some (.ref s.heap.objs.size)) { s with heap := g }) :
    wpAny (model prog w) A (pyNext (.ref z)) Q E s := by
  have ty : s.TypeIs (.ref z) "zip" := ⟨_, hz, rfl⟩
  unfold pyNext
  refine wpAny_bind (wpAny_attempt (wpAny_callSpecial?_slot (name := Str.ofString "__next__") ty F.slot_zip_next (wpAny_call_entry F.slot_zip_next ty F.entry_zip_next ?_ (F.args_zip_next_1 _))))
  exact zipS_item D hz hI hO k1 k2 p1 p2 hu hv fun g e1 e2 e3 e4 e5 e6 e7 => wpAny_pure (q g e1 e2 e3 e4 e5 e6 e7)
theorem nextS_end {z tI tO c1 c2 l1 l2 : Addr} {n1 n2 : Nat} {us vs : Array Value} {a b : Value} {Q : Option Value → Shared → Prop} (hh : A.handled = none) (D : ZipApart z tI tO c1 c2 l1 l2)
    (hz : SZ s.heap z tI tO .none) (hI : IsPair s.heap tI (.ref c1) (.ref c2)) (hO : IsPair s.heap tO a b)
    (k1 : s.heap.IsTupleIter c1 l1 n1) (k2 : s.heap.IsTupleIter c2 l2 n2) (p1 : s.heap.IsTuple l1 us) (p2 : s.heap.IsTuple l2 vs) (hu : us[n1]? = none) (hv : vs[n2]? = none)
    (q : ∀ g, (∀ d o, d ≠ z → d ≠ tO → d ≠ c1 → d ≠ c2 → s.heap.get? d = some o → g.get? d = some o) → Q none { s with heap := g }) : wpAny (model prog w) A (pyNext (.ref z)) Q E s := by
  have ty : s.TypeIs (.ref z) "zip" := ⟨_, hz, rfl⟩
  unfold pyNext
  refine wpAny_bind (wpAny_attempt (wpAny_callSpecial?_slot (name := Str.ofString "__next__") ty F.slot_zip_next (wpAny_call_entry F.slot_zip_next ty F.entry_zip_next ?_ (F.args_zip_next_1 _))))
  refine zipS_end hh D hz hI hO k1 k2 p1 p2 hu hv fun g e hk he => ?_
  obtain ⟨o, ho, ht⟩ := he
  exact wpAny_bind (wpAny_isInstance (T := "StopIteration") (b := true) ⟨o, ho, ht⟩ isSubtype_stop (wpAny_pure (q g hk)))
end
/-! ### the making -/
def kwS : List (Str × Value) := [(Str.ofString "strict", .bool true)]
theorem tc_zipS (a b : Value) : checkTypeCall "zip" ⟨[a, b], kwS⟩ = pure () := by kernel_rfl
theorem nc_zipS (a b : Value) : checkBuiltinCall "zip.__new__" ⟨[.type "zip", a, b], kwS⟩ = pure () := by kernel_rfl
theorem ao_zipS (o a b : Value) : argsOk "object.__init__" ⟨[o, a, b], kwS⟩ := by unfold argsOk; kernel_rfl
abbrev g1 (h : Heap) (a : Addr) : Heap := h.push { cls := .type "tuple_iterator", data := .fields #[.ref a, .int 0 0] }
abbrev g2 (h : Heap) (a b : Addr) : Heap := (g1 h a).push { cls := .type "tuple_iterator", data := .fields #[.ref b, .int 0 0] }
abbrev g3 (h : Heap) (a b : Addr) : Heap := (g2 h a b).push { cls := .type "tuple", data := .seq #[.ref h.objs.size, .ref (g1 h a).objs.size] }
abbrev g4 (h : Heap) (a b : Addr) : Heap := (g3 h a b).push { cls := .type "tuple", data := .seq #[.none, .none] }
abbrev g5 (h : Heap) (a b : Addr) : Heap := (g4 h a b).push { cls := .type "zip", data := .fields #[.none, .bool false, .bool true, .ref (g2 h a b).objs.size, .ref (g3 h a b).objs.size] }
theorem meets_zipS (a b : Addr) (us vs : Array Value) :
    Meets (Builtin.«zip.__new__» ⟨[.type "zip", .ref a, .ref b], kwS⟩) (fun _ R s => s.heap.IsTuple a us ∧ s.heap.IsTuple b vs ∧ R (.ok (.ret (.ref (g4 s.heap a b).objs.size))) { s with heap := g5 s.heap a b }) :=
  .of_wp fun prog w A R s h => by
    obtain ⟨hp, g, d, tk, os⟩ := s
    obtain ⟨h1, h2, h⟩ := h
    have hsub := sub_zip
    have e1 : (Str.ofString "strict" != ("strict" : Str)) = false := by decide +kernel
    have L1 : Heap.IsTuple (Shared.heap ⟨hp, g, d, tk, os⟩) a us := h1
    have L2 : Heap.IsTuple (Shared.heap ⟨hp.push { cls := .type "tuple_iterator", data := .fields #[.ref a, .int 0 0] }, g, d, tk, os⟩) b vs := Heap.IsTuple.push h2 _
    unfold kwS
    wp_walk using wpAny_pyIter_tuple L1, wpAny_pyIter_tuple L2
    exact ⟨_, rfl, h⟩
end DLZ
end
section
namespace DLZ
open PySem
section
variable {prog : Program} {w : World} {A : Around} {E : Value → Shared → Prop} {s : Shared}
theorem call_zipS {a b : Addr} {us vs : Array Value} {Q : Value → Shared → Prop} (h1 : s.heap.IsTuple a us) (h2 : s.heap.IsTuple b vs)
    (q : ∀ g, SZ g (s.heap.objs.size + 4) (s.heap.objs.size + 2) (s.heap.objs.size + 3) .none → IsPair g (s.heap.objs.size + 2) (.ref s.heap.objs.size) (.ref (s.heap.objs.size + 1)) →
      IsPair g (s.heap.objs.size + 3) .none .none → g.IsTupleIter s.heap.objs.size a 0 → g.IsTupleIter (s.heap.objs.size + 1) b 0 →
      (∀ d o, s.heap.get? d = some o → g.get? d = some o) → Q (.ref (s.heap.objs.size + 4)) { s with heap := g }) :
    wpAny (model prog w) A (call (.type "zip") [.ref a, .ref b] kwS) Q E s := by
  refine callType_newKw F.called_zip (by decide) (tc_zipS _ _) (nc_zipS _ _) (fun o => ao_zipS o _ _) F.entry_zip_new (meets_zipS a b us vs) ⟨h1, h2, ?_⟩
  have y1 : (g1 s.heap a).objs.size = s.heap.objs.size + 1 := Heap.size_push ..
  have y2 : (g2 s.heap a b).objs.size = s.heap.objs.size + 2 := by rw [Heap.size_push, y1]
  have y3 : (g3 s.heap a b).objs.size = s.heap.objs.size + 3 := by rw [Heap.size_push, y2]
  have y4 : (g4 s.heap a b).objs.size = s.heap.objs.size + 4 := by rw [Heap.size_push, y3]
  have e5 : (g5 s.heap a b).get? (g4 s.heap a b).objs.size = some _ := Heap.get?_push_size _ rfl
  have e4 : (g5 s.heap a b).get? (g3 s.heap a b).objs.size = some _ := Heap.get?_push_of_some _ (Heap.get?_push_size _ rfl)
  have e3 : (g5 s.heap a b).get? (g2 s.heap a b).objs.size = some _ := Heap.get?_push_of_some _ (Heap.get?_push_of_some _ (Heap.get?_push_size _ rfl))
  have e2 : (g5 s.heap a b).get? (g1 s.heap a).objs.size = some _ := Heap.get?_push_of_some _ (Heap.get?_push_of_some _ (Heap.get?_push_of_some _ (Heap.get?_push_size _ rfl)))
  have e1 : (g5 s.heap a b).get? s.heap.objs.size = some _ := Heap.get?_push_of_some _ (Heap.get?_push_of_some _ (Heap.get?_push_of_some _ (Heap.get?_push_of_some _ (Heap.get?_push_size _ rfl))))
  show _ ∧ _
  rw [y2, y3, y4] at e5
  rw [y1, y2] at e3
  rw [y3] at e4
  rw [y1] at e2
  rw [y4]
  exact ⟨⟨_, e5, rfl⟩, q _ e5 e3 e4 ⟨_, e1, rfl, rfl⟩ ⟨_, e2, rfl, rfl⟩ fun d o x => Heap.get?_push_of_some _ (Heap.get?_push_of_some _ (Heap.get?_push_of_some _ (Heap.get?_push_of_some _ (Heap.get?_push_of_some _ x))))⟩
theorem letgo_S {es : List Expr} {k} {pos : Pos} {z tI tO t : Addr} {Q : Unit → Shared → Prop} (hz : SZ s.heap z tI tO (rawInt t)) (q : ∀ g, SZ g z tI tO .none → Heap.SameBut z s.heap g → Q () { s with heap := g }) :
    wpAny (model prog w) A (letOwnedTupleGo (.Tuple es k pos) (.ref z) (.ref t)) Q E s := by
  unfold letOwnedTupleGo
  refine wpAny_bind (wpAny_load hz ?_)
  show wpAny _ _ (if (["enumerate", "zip", "dict_itemiterator", "dict_reverseitemiterator", "odict_iterator", "itertools.zip_longest", "itertools.pairwise"].contains "zip" && (#[rawInt t, .bool false, .bool true, .ref tI, .ref tO] : Array Value)[0]? == some (rawInt t)) = true then _ else _) Q E s
  rw [if_pos (by simp)]
  refine wpAny_bind (wpAny_rule ?_)
  show wpAny _ _ (setField (.ref z) 0 .none) Q E s
  exact wpAny_setField_rec hz (by simp) fun g e1 e2 => q g e1 e2
theorem iter_S {z tI tO : Addr} {f : Value} {Q : Value → Shared → Prop} (hz : SZ s.heap z tI tO f) (q : Q (.ref z) s) : wpAny (model prog w) A (pyIter (.ref z)) Q E s := by
  have ty : s.TypeIs (.ref z) "zip" := ⟨_, hz, rfl⟩
  refine wpAny_pyIter_slot ty F.slot_zip_iter (wpAny_call_entry F.slot_zip_iter ty F.entry_zip_iter ?_ (F.args_zip_iter_1 _))
  show wpAny _ _ (ret (.ref z)) _ _ s
  exact wpAny_pure ⟨_, rfl, "zip", _, ty, F.slot_zip_next.lookup, q⟩
end
end DLZ
namespace DL
open PySem PySem.Spec PyProof.Rows L2 DLZ
open Classical
/-- as a zip, but at the end nothing is left of either -/
def ItS (K : PySem.W.Frag) (a b : Addr) : It := ⟨(RZ.ItzT K a b).go, (RZ.ItzT K a b).yld, fun i H => ∃ xs ys : List V, SqT K H a xs ∧ SqT K H b ys ∧ xs.length ≤ i ∧ ys.length ≤ i⟩
theorem turn_S {P : Program} {w : World} {K : PySem.W.Frag} {es : List Expr} {kk : Nat} {tpos : Pos} {a b z tI tO c1 c2 : Addr} (D : ZipApart z tI tO c1 c2 a b) :
    Turn P w K (.Tuple es kk tpos) (ItS K a b) [z, tI, tO, c1, c2] z (fun i h => SZ h z tI tO .none ∧ IsPair h tI (.ref c1) (.ref c2) ∧ (∃ x y, IsPair h tO x y) ∧ h.IsTupleIter c1 a i ∧ h.IsTupleIter c2 b i) where
  mem := by simp
  obj := by
    rintro i h ⟨hz, hI, ⟨x, y, hO⟩, ⟨o1, e1, _, d1⟩, ⟨o2, e2, _, d2⟩⟩ c hc
    have hc' : c = z ∨ c = tI ∨ c = tO ∨ c = c1 ∨ c = c2 := by simpa using hc
    rcases hc' with rfl | rfl | rfl | rfl | rfl
    · exact ⟨_, hz, fun v q => nomatch q⟩
    · exact ⟨_, hI, fun v q => nomatch q⟩
    · exact ⟨_, hO, fun v q => nomatch q⟩
    · exact ⟨o1, e1, fun v q => by rw [d1] at q; cases q⟩
    · exact ⟨o2, e2, fun v q => by rw [d2] at q; cases q⟩
  keep := by
    rintro i h h' ⟨hz, hI, ⟨x, y, hO⟩, h1, h2⟩ k
    exact ⟨k z (by simp) _ hz, k tI (by simp) _ hI, ⟨x, y, k tO (by simp) _ hO⟩, h1.at fun o q => k c1 (by simp) o q, h2.at fun o q => k c2 (by simp) o q⟩
  item := by
    intro X hP hw hK hc i pins s σ H E I hf st hg
    subst hP hw hK
    obtain ⟨hz, hI, ⟨x0, y0, hO⟩, h1, h2⟩ := st
    obtain ⟨xs, ys, x, y, hqx, hqy, hx, hy⟩ := hg
    obtain ⟨us, rv, p, _⟩ := I.tuple hqx
    obtain ⟨vs, rv2, p2, _⟩ := I.tuple hqy
    obtain ⟨u, hu, ru⟩ := rv.get hx
    obtain ⟨v, hv, rw⟩ := rv2.get hy
    have ltz : z < s.heap.objs.size := Heap.lt_size hz
    have five : ∀ {c : Addr}, c ∈ [z, tI, tO, c1, c2] → c = z ∨ c = tI ∨ c = tO ∨ c = c1 ∨ c = c2 := fun h => by simpa using h
    refine nextS_item D hz hI hO h1 h2 p p2 (u := u) (v := v) (by simpa using hu) (by simpa using hv) fun g z' O' k1 k2 hT hsz hk => ?_
    refine ⟨_, rfl, letgo_S (s := { s with heap := g }) z' fun g2 z2 sb => ?_⟩
    have hT2 : g2.get? s.heap.objs.size = some { cls := .type "tuple", data := .seq #[u, v] } := (sb.2 _ (Nat.ne_of_gt ltz)).trans hT
    have new : ObjOk X.prog X.w (upd H s.heap.objs.size (.tup [x, y])) g2 s.heap.objs.size (.tup [x, y]) := ⟨by show 2 ≤ sizeLine; decide, [u, v], .cons ru (.cons rw .nil), ⟨_, hT2, rfl, _, rfl⟩⟩
    have I1 : Inv X pins σ (upd H s.heap.objs.size (.tup [x, y])) { s with heap := g2 } :=
      I.turnedNew (t' := s.toks) (ch := [z, tI, tO, c1, c2]) (fun c o hb q => (sb.2 c (fun e => hb (by simp [e]))).trans (hk c o (fun e => hb (by simp [e])) (fun e => hb (by simp [e])) (fun e => hb (by simp [e])) (fun e => hb (by simp [e])) q)) hf (Nat.le_refl _) new
    refine ⟨.ref s.heap.objs.size, _, I1, rfl, ⟨_, x, y, rfl, I.hok.fresh (Nat.le_refl _), rfl, fun l hl => by rw [I.tuple_inj hl hqx]; exact hx, fun l hl => by rw [I.tuple_inj hl hqy]; exact hy⟩, ⟨z2, ?_, ⟨u, v, ?_⟩, ?_, ?_⟩, fun c hcm => ?_⟩
    · exact (sb.2 _ D.TIz).trans (hk _ _ D.TIz D.TITO D.TIi1 D.TIi2 hI)
    · exact (sb.2 _ D.TOz).trans O'
    · exact k1.at fun o q => (sb.2 _ D.i1z).trans q
    · exact k2.at fun o q => (sb.2 _ D.i2z).trans q
    · have hlt : c < s.heap.objs.size := by
        rcases five hcm with rfl | rfl | rfl | rfl | rfl
        · exact ltz
        · exact Heap.lt_size hI
        · exact Heap.lt_size hO
        · obtain ⟨_, e1, _⟩ := h1; exact Heap.lt_size e1
        · obtain ⟨_, e1, _⟩ := h2; exact Heap.lt_size e1
      rw [upd_ne (Nat.ne_of_lt hlt)]
      exact (hf c hcm).1
  done := by
    intro X hP hw hK hc i pins s σ H E I hf st hg
    subst hP hw hK
    obtain ⟨hz, hI, ⟨x0, y0, hO⟩, h1, h2⟩ := st
    obtain ⟨xs, ys, hqx, hqy, d1, d2⟩ := hg
    obtain ⟨us, rv, p, _⟩ := I.tuple hqx
    obtain ⟨vs, rv2, p2, _⟩ := I.tuple hqy
    have l1 := rv.length
    have l2 := rv2.length
    refine nextS_end (I.ok.hd hc) D hz hI hO h1 h2 p p2 (by simp; omega) (by simp; omega) fun g hk => ⟨rfl, I.turnedL (t' := s.toks) (ch := [z, tI, tO, c1, c2]) (fun c o hb q =>
      hk c o (fun e => hb (by simp [e])) (fun e => hb (by simp [e])) (fun e => hb (by simp [e])) (fun e => hb (by simp [e])) q) hf⟩
  self := fun A i s Q E st h => iter_S st.1 h
def iZS (K : PySem.W.Frag) (ta : TA) : TI := fun σ H R => ta σ H fun vs H1 => ∃ a b xs ys, vs = [.ref a, .ref b] ∧ SqT K H1 a xs ∧ SqT K H1 b ys ∧ R (ItS K a b) H1
theorem pi_zipS {X : Cx} {e e2 : Expr} {ta : TA} {p pos tpos kp cp : Pos} {j} {es : List Expr} {kk : Nat} (hg : Gl X "zip") (hm : X.mg "zip" = none) (ha : PA X [e, e2] ta)
    (hs : starEach [e, e2] X.env = (false, eval e X.env) :: starEach [e2] X.env := by rfl) (hpl : ((backTo pos (starEach [e, e2] X.env)).any (·.1) || (backToKw pos (keywordEach [⟨some (Str.ofString "strict"), .Constant (.bool true) j cp, kp⟩] X.env)).any (·.1.isNone)) = false := by rfl)
    (hall : (backToKw pos (keywordEach [⟨some (Str.ofString "strict"), .Constant (.bool true) j cp, kp⟩] X.env)).all (·.1.isSome) = true := by rfl) (hks : (backToKw pos (keywordEach [⟨some (Str.ofString "strict"), .Constant (.bool true) j cp, kp⟩] X.env)).filterMap (·.1) = [Str.ofString "strict"] := by rfl) :
    PI X (.Tuple es kk tpos) (.Call (.Name "zip" p) [e, e2] [⟨some (Str.ofString "strict"), .Constant (.bool true) j cp, kp⟩] pos) (iZS X.K ta) := by
  refine ⟨fun pins s σ H R I h => ?_⟩
  have hk : PK X [⟨some (Str.ofString "strict"), .Constant (.bool true) j cp, kp⟩] (tCons (tC (.bl true)) tNil) := pk_cons pe_bl pk_nil
  refine wpAny_Call_Name_kw (ld_blt I hg hm PyProof.Rows.boot_zip (PySem.W.callWith_of (P := fun _ => True) hpl (fun _ _ => ⟨.machine, .inr (.inl rfl), .of_pure rfl⟩) (PyProof.Rows.evalArgs_kw2 hall (thn (ha.run pos pins s σ H _ I h) fun us s1 ⟨vs, H1, I1, r1, q1⟩ => thn (hk.run pos pins s1 σ H1 (fun zs H2 => zs = [.bl true] ∧ H2 = H1) I1 ⟨rfl, rfl⟩) fun ws s2 ⟨zs, H2, I2, r2, q2⟩ => ⟨trivial, ?_⟩) hs)))
  obtain ⟨rfl, rfl⟩ := q2
  obtain ⟨a, b, xs, ys, rfl, hqx, hqy, q⟩ := q1
  cases r1 with
  | cons ra rr =>
  cases rr with
  | cons rb rr =>
  cases rr
  cases ra
  cases rb
  obtain ⟨w1, rfl, rw1⟩ := vals1 r2
  cases rw1
  rw [hks]
  have fresh5 : ∀ c, c ∈ [s2.heap.objs.size + 4, s2.heap.objs.size + 2, s2.heap.objs.size + 3, s2.heap.objs.size, s2.heap.objs.size + 1] → FpOk X pins H2 c := fun c hcm => by
    have hc' : c = s2.heap.objs.size + 4 ∨ c = s2.heap.objs.size + 2 ∨ c = s2.heap.objs.size + 3 ∨ c = s2.heap.objs.size ∨ c = s2.heap.objs.size + 1 := by simpa using hcm
    have hle : s2.heap.objs.size ≤ c := by omega
    exact I2.fpOk hle (I2.hok.fresh hle)
  obtain ⟨us, rv, p1, _⟩ := I2.tuple hqx
  obtain ⟨ts, rv2, p2, _⟩ := I2.tuple hqy
  obtain ⟨o1, ho1, _⟩ := id p1
  obtain ⟨o2, ho2, _⟩ := id p2
  refine call_zipS (show s2.heap.IsTuple a us.toArray from p1) (show s2.heap.IsTuple b ts.toArray from p2) fun g hz hI hO h1 h2 hk2 => iter_S hz ?_
  have I3 : Inv X pins σ H2 { s2 with heap := g } := I2.kept (t' := s2.toks) hk2
  exact ⟨s2.heap.objs.size + 4, [s2.heap.objs.size + 4, s2.heap.objs.size + 2, s2.heap.objs.size + 3, s2.heap.objs.size, s2.heap.objs.size + 1], _, _, H2, rfl, I3, turn_S (PySem.W.ktu_apart s2.heap.objs.size a b (Heap.lt_size ho1) (Heap.lt_size ho2)), ⟨hz, hI, ⟨_, _, hO⟩, h1, h2⟩, fresh5, q⟩
def wkZipS : List D → DM Wk := fun ds _ S => match ds with
  | [.pd (.tuple xs), .pd (.tuple ys)] => if xs.length = ys.length then .ok ⟨zipIt xs ys, .no⟩ S else .stuck
  | _ => .stuck
def iZipS (m : DM (List D)) : DM Wk := mBind m wkZipS
section
variable {g : G} {E : WX} {X : Cx} {a b : Expr} {ml : DM (List D)} {pos p tpos kp cp : Pos} {j : Nat}
theorem ix_zipS (hK : X.K = g.K) (hg : Gl X "zip") (hm : X.mg "zip" = none) {elts : List Expr} {kk : Nat} (ha : PA X [a, b] (TL g E ml))
    (hs : starEach [a, b] X.env = (false, eval a X.env) :: starEach [b] X.env := by rfl) (hpl : ((backTo pos (starEach [a, b] X.env)).any (·.1) || (backToKw pos (keywordEach [⟨some (Str.ofString "strict"), .Constant (.bool true) j cp, kp⟩] X.env)).any (·.1.isNone)) = false := by rfl)
    (hall : (backToKw pos (keywordEach [⟨some (Str.ofString "strict"), .Constant (.bool true) j cp, kp⟩] X.env)).all (·.1.isSome) = true := by rfl) (hks : (backToKw pos (keywordEach [⟨some (Str.ofString "strict"), .Constant (.bool true) j cp, kp⟩] X.env)).filterMap (·.1) = [Str.ofString "strict"] := by rfl) :
    PI X (.Tuple elts kk tpos) (.Call (.Name "zip" p) [a, b] [⟨some (Str.ofString "strict"), .Constant (.bool true) j cp, kp⟩] pos) (TW g E (iZipS ml)) :=
  PI.imp (pi_zipS hg hm ha hs hpl hall hks) fun σ H R ⟨L, σd, S, rp, sl, ev⟩ => ⟨L, σd, S, rp, sl, ev.step fun ds S1 L1 H1 x1 r1 ev1 vs dn => by
    unfold wkZipS at ev1
    split at ev1
    · rename_i xs ys
      split at ev1
      rotate_left
      · exact ev1.elim
      rename_i hl
      have fin := ev1.ok r1
      cases dn with
      | cons n1 n2 =>
        cases n2 with
        | cons n2 n3 =>
          cases n3
          obtain ⟨a1, w1, rfl, t1, z1⟩ := den_tup n1
          obtain ⟨a2, w2, rfl, t2, z2⟩ := den_tup n2
          rw [hK]
          refine ⟨a1, a2, w1, w2, rfl, t1, t2, fin _ fun g' L S H gx x r' _ => ?_⟩
          have stay : ∀ {p : Addr} {w : List V}, SqT g.K H1 p w → SqT g.K H p w := fun {p w} rd => SqT.keep rd fun zs hz o e' => x.keep p o e' fun hm => by
            obtain ⟨o2, e2, nt⟩ := r1.there hm
            rcases hz with hz | ⟨o3, hz⟩
            · rw [hz] at e2; cases e2; exact nt.1 zs rfl
            · rw [hz] at e2; cases e2; exact nt.2 o3 zs rfl
          refine ⟨fun i d e => ?_, w1, w2, stay t1, stay t2, ?_⟩
          · obtain ⟨dx, dy, ex, ey, rfl⟩ := zipIt_get e
            obtain ⟨x', gx', zx⟩ := z1.get ex
            obtain ⟨y', gy', zy⟩ := z2.get ey
            refine ⟨⟨w1, w2, x', y', stay t1, stay t2, gx', gy'⟩, fun z H' hz => ?_⟩
            obtain ⟨T, x2, y2, rfl, hT, rfl, f1, f2⟩ := hz
            have e3 := f1 _ (stay t1)
            have e4 := f2 _ (stay t2)
            rw [gx'] at e3; cases e3
            rw [gy'] at e4; cases e4
            have k := kpx r1 gx x
            exact pairNew r' hT (gx.K ▸ zx.keep k) (gx.K ▸ zy.keep k)
          · rw [z1.len, z2.len]
            show _ ≤ (zipIt xs ys).length ∧ _ ≤ (zipIt xs ys).length
            unfold zipIt
            rw [List.length_zipWith]
            omega
    · exact ev1.elim⟩
end
/-! ### for x in xs[lo:hi], of a list that changes -/
theorem Paired.drop' {α β : Type} {R : α → β → Prop} : ∀ {xs : List α} {ys : List β}, Paired R xs ys → ∀ n, Paired R (xs.drop n) (ys.drop n)
  | _, _, h, 0 => by simpa using h
  | _, _, .nil, n + 1 => .nil
  | _, _, .cons _ h, n + 1 => Paired.drop' h n
theorem Paired.take' {α β : Type} {R : α → β → Prop} : ∀ {xs : List α} {ys : List β}, Paired R xs ys → ∀ n, Paired R (xs.take n) (ys.take n)
  | _, _, _, 0 => .nil
  | _, _, .nil, n + 1 => .nil
  | _, _, .cons a h, n + 1 => .cons a (Paired.take' h n)
section
variable {g : G} {E : WX} {X : Cx} {L : List Addr} {H : Hp} {S : Sto} {tg a : Expr} {ma : DM D} {l u : DM (Option Int)} {lo hi : Option Expr} {pos p2 : Pos}
theorem cut_dens {ds : List D} {vs : List V} (h : Dens g L H ds vs) (lo hi : Option Int) : Dens g L H (cut ds lo hi) (cutV vs lo hi) := by
  unfold cutV cut
  rw [Paired.len h]
  exact Paired.take' (Paired.drop' h _) _
def wkSl (d : D) (lo hi : Option Int) : Sto → Out Wk := fun S => match asL S d with
  | some xs => .ok ⟨cut xs lo hi, .no⟩ S
  | none => .stuck
def iSl (m : DM D) (lo hi : DM (Option Int)) : DM Wk := mBind m fun d => mBind lo fun l => mBind hi fun u => fun _ S => wkSl d l u S
theorem ix_slR (hK : X.K = g.K) (ha : PE X a (T g E ma)) (hl : PO X lo (TOd g E l)) (hu : PO X hi (TOd g E u)) : PI X tg (.Subscript a (.Slice lo hi none p2) pos) (TW g E (iSl ma l u)) :=
  PI.imp (pi_seq (pe_slice sl_list ha hl hu)) fun σ H R ⟨L, σd, S, rp, sl, ev⟩ => ⟨L, σd, S, rp, sl, ev.step fun d S1 L1 H1 x1 r1 ev1 v dn =>
    ⟨L1, σd, S1, r1, sl.ext rp x1, ev1.step fun lo S2 L2 H2 x2 r2 ev2 => ⟨L2, σd, S2, r2, (sl.ext rp x1).ext r1 x2, ev2.step fun hi S3 L3 H3 x3 r3 ev3 => by
      have n3 := (dn.ext r1 x2).ext r2 x3
      unfold wkSl at ev3
      split at ev3
      · rename_i xs ex
        obtain ⟨p, vs, rfl, rd, ds⟩ := asL_ok r3 n3 ex
        refine ⟨p, vs, rfl, .inl rd, fun q hn => ⟨q, rfl, .inl ⟨_, .inl (.inl upd_same), ?_⟩⟩⟩
        have fin := ev3 L3 (upd H3 q (.lst (cutV vs lo hi))) (Ext.new1 hn) (r3.new1 hn)
        rw [hK]
        refine fin _ fun g' L S H gx x r' gu => ?_
        have hnw : ¬ g.wr L3 q := r3.free hn
        have rdq : SqL g.K H q (cutV vs lo hi) := .inl (Rd.keep (.inl upd_same) fun o e' => x.keep q o e' fun hm => hnw (.inr hm))
        have dc := cut_dens ds lo hi
        refine ⟨fun i d e => ?_, _, rdq, by rw [Paired.len dc]; exact Nat.le_refl _⟩
        obtain ⟨y, ey, dy⟩ := Paired.get dc e
        refine ⟨⟨_, y, rdq, ey⟩, fun z H' hz => ?_⟩
        obtain ⟨rfl, hz⟩ := hz
        have := hz _ rdq
        rw [ey] at this
        cases this
        exact ⟨Ext.refl, r', (dy.ext r3 (Ext.new1 hn)).gx (r3.new1 hn) gx x⟩
      · exact ev3.elim⟩⟩⟩
end
end DL
end
section
namespace DL
open PySem PySem.Spec PyProof.Rows L2
/-! ### {"plus": a + b, ..}[word]: a display of sums, differences, products, read at once -/
inductive IOp | add | sub | mul
def IOp.op : IOp → Operator
  | .add => .Add
  | .sub => .Sub
  | .mul => .Mult
def IOp.f : IOp → Int → Int → Int
  | .add, i, j => i + j
  | .sub, i, j => i - j
  | .mul, i, j => i * j
def IOp.can : IOp → Int → Int → Bool
  | .mul, i, j => decide (i.natAbs < 2 ^ 64) && decide (j.natAbs < 2 ^ 64)
  | _, _, _ => true
def rIO (o : IOp) : R2 := fun x y H Q => ∃ i j : Int, x = .int i ∧ y = .int j ∧ o.can i j = true ∧ Q (.int (o.f i j)) H
theorem io_ok {X : Cx} : ∀ o : IOp, OpR X (binaryOp o.op) (rIO o)
  | .add => fun pins s σ H x y v u Q I rx ry ⟨i, j, e1, e2, _, q⟩ => op_add pins s σ H x y v u Q I rx ry ⟨i, j, e1, e2, q⟩
  | .sub => fun pins s σ H x y v u Q I rx ry ⟨i, j, e1, e2, _, q⟩ => op_sub pins s σ H x y v u Q I rx ry ⟨i, j, e1, e2, q⟩
  | .mul => fun pins s σ H x y v u Q I rx ry ⟨i, j, e1, e2, h, q⟩ => op_mul pins s σ H x y v u Q I rx ry ⟨i, j, e1, e2, by
      have h : (decide (i.natAbs < 2 ^ 64) && decide (j.natAbs < 2 ^ 64)) = true := h
      rw [Bool.and_eq_true, decide_eq_true_eq, decide_eq_true_eq] at h
      exact .inl (by omega), q⟩
abbrev tIO (i j : Nat) (p : Str × IOp) : TE × TE := (tC (.str p.1), tOp (rIO p.2) (tVar i) (tVar j))
abbrev kvIO (a b : Int) (p : Str × IOp) : Key × V := (.inr p.1, .int (p.2.f a b))
theorem pairs_io {i j : Nat} {a b : Int} {σ : L2.St} (hi : σ[i]? = some (some (.int a))) (hj : σ[j]? = some (some (.int b))) : ∀ (kos : List (Str × IOp)) {H : Hp} {Q : List (V × V) → Hp → Prop}, (kos.all fun p => p.2.can a b) = true →
    Q (kos.map fun p => (V.str p.1, V.int (p.2.f a b))) H → tPairs (kos.map (tIO i j)) σ H Q
  | [], H, Q, _, q => q
  | p :: r, H, Q, h, q => by
    rw [List.all_cons, Bool.and_eq_true] at h
    exact ⟨.int a, hi, .int b, hj, a, b, rfl, rfl, h.1, pairs_io hi hj r h.2 q⟩
theorem merge_new : ∀ (l acc : List (Key × V)), ((acc ++ l).map (·.1)).Nodup → mergeK acc l = acc ++ l
  | [], acc, _ => by rw [List.append_nil]; rfl
  | p :: r, acc, h => by
    have e : putK acc p.1 p.2 = acc ++ [p] := by
      unfold putK
      rw [if_neg]
      intro hx
      obtain ⟨q, hq, e⟩ := List.any_eq_true.mp hx
      rw [List.map_append, List.nodup_append] at h
      exact h.2.2 q.1 (List.mem_map.mpr ⟨q, hq, rfl⟩) p.1 (by simp) (of_decide_eq_true e)
    show mergeK (putK acc p.1 p.2) r = _
    rw [e, merge_new r (acc ++ [p]) (by simpa using h), List.append_assoc]
    rfl
theorem find_io (a b : Int) (w : Str) : ∀ (kos : List (Str × IOp)) {p : Str × IOp}, (kos.find? fun p => decide (p.1 = w)) = some p → valV (kos.map (kvIO a b)) (.inr w) = some (.int (p.2.f a b))
  | q :: r, p, h => by
    unfold valV
    rw [List.map_cons, List.find?_cons]
    rw [List.find?_cons] at h
    by_cases e : q.1 = w
    · rw [decide_eq_true e] at h
      cases h
      rw [decide_eq_true (show (kvIO a b q).1 = .inr w from congrArg Sum.inr e)]
      rfl
    · rw [decide_eq_false e] at h
      have e2 : ¬ (kvIO a b q).1 = .inr w := fun x => e (Sum.inr.inj x)
      rw [decide_eq_false e2]
      exact find_io a b w r h
def eDispIx (kos : List (Str × IOp)) (i j o : Nat) : DM D := fun σ S => match σ[i]?, σ[j]?, σ[o]? with
  | some (some (.pd (.int a))), some (some (.pd (.int b))), some (some (.pd (.str w))) => if (kos.all fun p => p.2.can a b) = true then (match kos.find? fun p => decide (p.1 = w) with
    | some p => .ok (.int (p.2.f a b)) S
    | none => .stuck) else .stuck
  | _, _, _ => .stuck
section
variable {X : Cx} {g : G} {E : WX} {kos : List (Str × IOp)} {i j o : Nat} {z : Str} {keys : List (Option Expr)} {values : List Expr} {pos p pos2 : Pos}
theorem px_dispIx (hu : X.A.units + 1 < cLine) (hp : PPs X pos keys values (kos.map (tIO i j))) (hall : keys.all (·.isSome) = true) (hl : keys.length = values.length) (h0 : keys ≠ []) (h15 : keys.length ≤ 15) (hk : kos.length ≤ 15) (hd : (kos.map (·.1)).Nodup)
    (hN : X.N[o]? = some z) (hv : Vis X.env.scope z) (hdb : (z == ("__debug__" : Str)) = false) (hcd : (z == ("__classdict__" : Str)) = false) (hs : NoSl (.Name z p)) : PE X (.Subscript (.Dict keys values pos) (.Name z p) pos2) (T g E (eDispIx kos i j o)) :=
  PE.imp (pe_dget hu (pe_disp hp hall hl h0 h15) (pe_var hN hv hdb hcd) hs) fun σ H Q ⟨L, σd, S, rp, sl, ev⟩ => by
    unfold eDispIx at ev
    split at ev
    · rename_i a b w ea eb ew
      split at ev
      · rename_i hc
        split at ev
        · rename_i q hq
          obtain ⟨va, e1, n1⟩ := sl i _ ea
          obtain ⟨vb, e2, n2⟩ := sl j _ eb
          obtain ⟨vw, e3, n3⟩ := sl o _ ew
          cases den_int n1
          cases den_int n2
          cases den_str n3
          intro r hr
          refine pairs_io e1 e2 kos hc ⟨upd_same, kos.map (kvIO a b), by rw [List.map_map]; rfl, by rw [List.length_map]; exact hk, ?_⟩
          have hm : mergeK [] (kos.map (kvIO a b)) = kos.map (kvIO a b) := by
            refine merge_new _ [] ?_
            rw [List.nil_append, List.map_map]
            have : (fun p : Str × IOp => ((Sum.inr p.1 : Key))) = (Sum.inr ∘ fun p : Str × IOp => p.1) := rfl
            show (kos.map fun p : Str × IOp => ((Sum.inr p.1 : Key))).Nodup
            rw [this, ← List.map_map]
            rw [List.nodup_iff_pairwise_ne, List.pairwise_map]
            exact (List.nodup_iff_pairwise_ne.mp hd).imp fun {x y} h e => h (Sum.inr.inj e)
          rw [hm, upd_upd]
          refine ⟨.str w, e3, r, .int (q.2.f a b), rfl, .inl ⟨_, .inr w, .inl upd_same, rfl, (find_io a b w kos hq).symm⟩, ?_⟩
          exact ev L _ (Ext.new1 hr) (rp.new1 hr) _ (.pd (.int _))
        · exact ev.elim
      · exact ev.elim
    · exact ev.elim
end
end DL
namespace DL
open PySem PySem.Spec PyProof.Rows L2
/-! ### xs.count(i), xs a list that stays -/
section
variable {g : G} {E : WX} {X : Cx} {o e : Expr} {es : List Expr} {mo : DM D} {ml : DM (List D)} {apos cpos : Pos}
def tyL (K : PySem.W.Frag) (x : V) (H : Hp) : Prop := tyV K "list" x H
theorem ty_lstL : TyOk X "list" (tyL X.K) := fun _ _ _ _ _ _ I r ty => tyV_is I r ty
def rCntL (K : PySem.W.Frag) (x : V) (xs : List V) (H : Hp) (Q : VK) : Prop := ∃ (a : Addr) (vs : List V) (ns : List Int) (i : Int), x = .ref a ∧ SqL K H a vs ∧ xs = [.int i] ∧ DpAll K H vs (ns.map .int) ∧ Q (.int (ns.count i : Nat)) H
theorem mt_cntL (hu : X.A.units + 64 < cLine) : MtR X "list.count" (rCntL X.K) := by
  intro pins s σ H x xs v us Q I rx rxs h
  obtain ⟨a, vs, ns, i, rfl, hs, rfl, z, q⟩ := h
  cases rx
  obtain ⟨its, rv, pl, _⟩ := I.list hs
  obtain ⟨as, ra⟩ := Dp.readsAll I _ _ _ z rv
  obtain ⟨u, rfl, ru⟩ := vals1 rxs
  obtain ⟨bs, rb⟩ := Dp.reads I _ _ u (.int i) ru
  have room : X.A.units + 1 + min (PyData.depthAll (ns.map .int)) (PyData.int i).depth < cLine := by
    rw [PySem.W.depth_ints]; omega
  refine SeqAt.count_list_data pl.isList ra rb (plain_ints ns) rfl room ?_
  rw [count_ints i ns]
  exact ⟨.int _, H, I.kept (t' := s.toks + 1) (h' := s.heap) fun _ _ e => e, ⟨_, rfl⟩, q⟩
def eCntL (mo : DM D) (ml : DM (List D)) : DM D := mBind mo fun d => fun σ S => match d with
  | .pd (.list ds) => mBind ml (fun es => fun _ S => opCnt ds es S) σ S
  | _ => .stuck
theorem px_cntL (hk : X.K = g.K) (hu : X.A.units + 64 < cLine) (ho : PE X o (T g E mo)) (ha : PA X (e :: es) (TL g E ml))
    (hbase : attributeBase o "count" X.env (eval o X.env) = eval o X.env := by rfl)
    (hfew : ((backTo cpos (starEach (e :: es) X.env)).all (fun x => !x.1) && (backToKw cpos (keywordEach [] X.env)).all (fun x => x.1.isSome)
      && decide ((e :: es).length + ([] : List Keyword).length + (if ([] : List Keyword).isEmpty then 0 else 1) < 30)) = true := by rfl)
    (hline : (apos.endLine == cpos.line) = true := by rfl) (hs : starEach (e :: es) X.env = (false, eval e X.env) :: starEach es X.env := by rfl) (hplain : (backTo cpos (starEach es X.env)).any (·.1) = false := by rfl) :
    PE X (.Call (.Attribute o "count" apos) (e :: es) [] cpos) (T g E (eCntL mo ml)) :=
  PE.imp (pe_mG ty_lstL PySem.F.plainAttrs_list PySem.F.slot_list_count PySem.F.type_list_count (mt_cntL hu) ho ha hbase hfew hline hs hplain) fun σ H Q ⟨L, σd, S, rp, sl, ev⟩ => ⟨L, σd, S, rp, sl, ev.step fun d S1 L1 H1 x1 r1 ev1 v dn => by
    split at ev1
    · rename_i ds
      obtain ⟨a, vs, rfl, rd, z⟩ := den_lst dn
      refine ⟨(show tyV X.K "list" (.ref a) H1 from .inl ⟨rfl, vs, .inl rd⟩), L1, σd, S1, r1, sl.ext rp x1, ev1.step fun es S2 L2 H2 x2 r2 ev2 ws dns => ?_⟩
      obtain ⟨a2, vs2, e2, rd2, z2⟩ := den_lst (Den.ext r1 x2 dn)
      cases e2
      unfold opCnt at ev2
      split at ev2
      · rename_i i
        split at ev2
        · rename_i ns en
          cases dns with
          | cons d1 d2 =>
            cases d2
            cases den_int d1
            rw [intsL_eq en] at z2
            have z3 := dz_ints_dp z2
            rw [← hk] at z3
            exact ⟨a, vs2, ns, i, rfl, .inl rd2, rfl, z3, fin_val r2 ev2 (.pd (.int _))⟩
        · exact ev2.elim
      · exact ev2.elim
    · exact ev1.elim⟩
end
end DL
end
section
namespace DL
open PySem PySem.Spec PyProof.Rows L2
/-! ### i | j; [f, g][i](..) -/
section
variable {X : Cx} {g : G} {E : WX}
def opOr : D → D → Sto → Out D := fun x y S => match x, y with
  | .pd (.int i), .pd (.int j) => .ok (.int (Builtin.bitOr i j)) S
  | _, _ => .stuck
theorem ox_or : OpX X g (binaryOp .BitOr) opOr := by
  intro E pins s σ H x y v u Q I rx ry h
  obtain ⟨L, S, dx, dy, r, nx, ny, ev⟩ := h
  unfold opOr at ev
  split at ev
  · rename_i i j
    cases den_int nx; cases den_int ny
    exact op_or pins s σ H _ _ v u Q I rx ry ⟨i, j, rfl, rfl, fin_val r ev (.pd (.int _))⟩
  · exact ev.elim
def eTwo (n : Nat) (m0 m1 : DF) (ma : DM D) (ml : DM (List D)) : DM D := mBind ma fun z => match z with
  | .pd (.int 0) => mBind ml (callF n m0)
  | .pd (.int 1) => mBind ml (callF n m1)
  | _ => fun _ _ => .stuck
variable {x0 x1 : Str} {ps0 ps1 : List Str} {m0 m1 : DF} {p0 p1 p2 lp pos : Pos} {e a : Expr} {es : List Expr} {ma : DM D} {ml : DM (List D)} {k n : Nat}
theorem px_two (C0 : Cal X.prog X.w X.K X.mg X.base k x0 ps0 m0) (C1 : Cal X.prog X.w X.K X.mg X.base k x1 ps1 m1) (hg0 : Gl X x0) (hg1 : Gl X x1) (hr : RoomG k X.A) (hK : X.K = g.K) (hmg : X.mg = g.mg) (tk : Takes X E) (ha : PE X a (T g E ma)) (hl : PA X (e :: es) (TL g E ml))
    (hn0 : ps0.length = n) (hn1 : ps1.length = n) (hd0 : (x0 == ("__debug__" : Str)) = false) (hd1 : (x1 == ("__debug__" : Str)) = false) (hs : PlainIx a)
    (h01 : starEach [Expr.Name x0 p0, .Name x1 p1] X.env = (false, eval (Expr.Name x0 p0) X.env) :: starEach [.Name x1 p1] X.env) (h11 : starEach [Expr.Name x1 p1] X.env = (false, eval (Expr.Name x1 p1) X.env) :: starEach [] X.env)
    (ht : eval (.Call (.Subscript (.List [.Name x0 p0, .Name x1 p1] lp) a p2) (e :: es) [] pos) X.env = (do callWith pos (← eval (.Subscript (.List [.Name x0 p0, .Name x1 p1] lp) a p2) X.env) [] (backTo pos (starEach (e :: es) X.env)) (backToKw pos (keywordEach [] X.env))))
    (he : starEach (e :: es) X.env = (false, eval e X.env) :: starEach es X.env) (hpl : (backTo pos (starEach es X.env)).any (·.1) = false) :
    PE X (.Call (.Subscript (.List [.Name x0 p0, .Name x1 p1] lp) a p2) (e :: es) [] pos) (T g E (eTwo n m0 m1 ma ml)) := by
  obtain ⟨a0, fd0, F0, hm0, hk0, hb0⟩ := C0.ex
  obtain ⟨a1, fd1, F1, hm1, hk1, hb1⟩ := C1.ex
  have hsub : PE X (.Subscript (.List [.Name x0 p0, .Name x1 p1] lp) a p2) (tOp (rIx X.K) (tLst (tCons (tC (.ref a0)) (tCons (tC (.ref a1)) tNil))) (T g E ma)) :=
    pe_ix L2.ix_seq (pe_lst (pa_cons (pe_glob hg0 hm0 rfl hd0) (pa_cons (pe_glob hg1 hm1 rfl hd1) pa_nil h11) h01)) ha hs
  refine ⟨fun pins s σ H Q I h => ?_⟩
  have hq : tOp (rIx X.K) (tLst (tCons (tC (.ref a0)) (tCons (tC (.ref a1)) tNil))) (T g E ma) σ H (fun y H1 => ∃ b fd ps m, y = .ref b ∧ ps.length = n ∧ FnG X.prog X.w X.K X.mg X.base k b fd ps (spM X.K X.mg ps.length m) ∧ PySem.W.keepIn X.K (.ref b) = true ∧ Binds X.K fd ps [] ∧ T g E (mBind ml (callF n m)) σ H1 Q) := by
    obtain ⟨L, σd, S, rp, sl, ev⟩ := h
    refine ⟨by show 2 ≤ sizeLine; decide, fun q hn => ?_⟩
    have x1 : Ext g L H L (upd H q (.lst [.ref a0, .ref a1])) := Ext.new1 hn
    refine ⟨L, σd, S, rp.new1 hn, sl.ext rp x1, (Ev.of x1 ev).step fun dz S1 L1 H1 x2 r1 ev1 v n1 => ?_⟩
    have hnw : ¬ g.wr L q := rp.free hn
    have rdq : SqL g.K H1 q [.ref a0, .ref a1] := .inl (Rd.keep (.inl upd_same) fun o e' => x2.keep q o e' fun hm => hnw (.inr hm))
    rw [← hK] at rdq
    split at ev1
    · cases den_int n1
      exact .inl ⟨q, _, 0, .ref a0, rfl, rfl, rdq, rfl, a0, fd0, ps0, m0, rfl, hn0, F0, hk0, hb0, L1, σd, S1, r1, (sl.ext rp x1).ext (rp.new1 hn) x2, ev1⟩
    · cases den_int n1
      exact .inl ⟨q, _, 1, .ref a1, rfl, rfl, rdq, rfl, a1, fd1, ps1, m1, rfl, hn1, F1, hk1, hb1, L1, σd, S1, r1, (sl.ext rp x1).ext (rp.new1 hn) x2, ev1⟩
    · exact ev1.elim
  refine Call_ (thn (hsub.run pins s σ H _ I hq) fun u s1 ⟨y, H1, I1, ry, b, fd, ps, m, ey, hpl2, F, hk, hb, q⟩ => ?_) ht
  subst ey
  obtain rfl : u = Value.ref b := ry
  subst hpl2
  exact PySem.W.callWith_K (h₀ := X.base) I1.ok.mod.kin hk (thn (hl.run pos pins s1 σ H1 _ I1 (call_reads hK hmg q)) fun us s2 ⟨vs, H2, I2, r, q2⟩ => ⟨I2.kIn, run_fnG (E := fun σ => WE E σ) F hr hb (passAt tk σ) I2 r (by simpa only [List.append_nil] using q2)⟩) he hpl
end
end DL
end
section
namespace DL
open PySem PySem.Spec PyProof.Rows L2

/-! ### plain reasoning about the readings -/
@[simp] theorem noRef_pd (x : PyData) : noRef (.pd x) = true := rfl
@[simp] theorem noRef_glob (x : Str) : noRef (.glob x) = true := rfl
@[simp] theorem refsOf_nil : refsOf [] = [] := rfl
@[simp] theorem refsOf_pd (x : PyData) (r : List D) : refsOf (.pd x :: r) = refsOf r := rfl
@[simp] theorem refsOf_ref (n : Nat) (r : List D) : refsOf (.ref n :: r) = n :: refsOf r := rfl
@[simp] theorem renum_nil (k : Nat) : renum k [] = [] := rfl
@[simp] theorem renum_pd (k : Nat) (x : PyData) (r : List D) : renum k (.pd x :: r) = .pd x :: renum k r := rfl
@[simp] theorem renum_ref (k n : Nat) (r : List D) : renum k (.ref n :: r) = .ref k :: renum (k + 1) r := rfl
@[simp] theorem obsAt_nil (S : Sto) : obsAt S [] = some [] := rfl
@[simp] theorem putAll_nil (S os : Sto) : putAll S [] os = S := by cases os <;> rfl
@[simp] theorem frz_pd (k : Nat) (S : Sto) (x : PyData) : frz k S (.pd x) = some (.pd x) := rfl
@[simp] theorem pdL_nil : pdL [] = some [] := rfl
@[simp] theorem pdL_cons (x : PyData) (r : List D) : pdL (.pd x :: r) = (pdL r).map (x :: ·) := rfl
/-- a call on data alone -/
theorem callF_pd {n : Nat} {f : DF} {ds : List D} {d : D} (h : f ds [] = .ok d []) (hd : refsOf ds = []) (hr : renum 0 ds = ds) (hn : ds.length = n) (hnr : noRef d = true) (σ : Sl) (S : Sto) : callF n f ds σ S = .ok d S := by
  unfold callF
  rw [hd]
  simp only [obsAt_nil, hr, h]
  simp [hn, hnr]
/-- .. with one object handed in, in the first place -/
theorem callF_ref {n : Nat} {f : DF} {ds : List D} {d : D} {p : Nat} {ob ob' : Ob} {S : Sto} (hp : S[p]? = some ob) (hob : pdOb ob = true) (hd : refsOf ds = [p]) (h : f (renum 0 ds) [ob] = .ok d [ob']) (hn : ds.length = n) (hnr : noRef d = true) (hob' : pdOb ob' = true) (σ : Sl) : callF n f ds σ S = .ok d (S.set p ob') := by
  unfold callF
  rw [hd]
  have e : obsAt S [p] = some [ob] := by simp [obsAt, hp]
  simp only [e, h]
  rw [if_pos ⟨hn, by simp, by simp [hob]⟩, if_pos ⟨rfl, hnr, by simp [hob']⟩]
  simp [putAll]
/-! ### the readings applied -/
section
variable {α β : Type} (σ : Sl) (S : Sto)
@[simp] theorem mBind_app (m : DM α) (f : α → DM β) : mBind m f σ S = (m σ S).bind fun a S' => f a σ S' := rfl
@[simp] theorem mRet_app (a : α) : mRet a σ S = .ok a S := rfl
theorem eVar_app (i : Nat) : eVar i σ S = (match σ[i]? with | some (some d) => .ok d S | _ => .stuck) := rfl
@[simp] theorem eVar_0 (x : D) (r : Sl) : eVar 0 (some x :: r) S = .ok x S := rfl
@[simp] theorem eVar_1 (a0 : Option D) (x : D) (r : Sl) : eVar 1 (a0 :: some x :: r) S = .ok x S := rfl
@[simp] theorem eVar_2 (a0 a1 : Option D) (x : D) (r : Sl) : eVar 2 (a0 :: a1 :: some x :: r) S = .ok x S := rfl
@[simp] theorem eVar_3 (a0 a1 a2 : Option D) (x : D) (r : Sl) : eVar 3 (a0 :: a1 :: a2 :: some x :: r) S = .ok x S := rfl
@[simp] theorem eVar_4 (a0 a1 a2 a3 : Option D) (x : D) (r : Sl) : eVar 4 (a0 :: a1 :: a2 :: a3 :: some x :: r) S = .ok x S := rfl
@[simp] theorem eVar_5 (a0 a1 a2 a3 a4 : Option D) (x : D) (r : Sl) : eVar 5 (a0 :: a1 :: a2 :: a3 :: a4 :: some x :: r) S = .ok x S := rfl
@[simp] theorem eVar_6 (a0 a1 a2 a3 a4 a5 : Option D) (x : D) (r : Sl) : eVar 6 (a0 :: a1 :: a2 :: a3 :: a4 :: a5 :: some x :: r) S = .ok x S := rfl
@[simp] theorem eVar_7 (a0 a1 a2 a3 a4 a5 a6 : Option D) (x : D) (r : Sl) : eVar 7 (a0 :: a1 :: a2 :: a3 :: a4 :: a5 :: a6 :: some x :: r) S = .ok x S := rfl
@[simp] theorem eVar_8 (a0 a1 a2 a3 a4 a5 a6 a7 : Option D) (x : D) (r : Sl) : eVar 8 (a0 :: a1 :: a2 :: a3 :: a4 :: a5 :: a6 :: a7 :: some x :: r) S = .ok x S := rfl
@[simp] theorem eVar_9 (a0 a1 a2 a3 a4 a5 a6 a7 a8 : Option D) (x : D) (r : Sl) : eVar 9 (a0 :: a1 :: a2 :: a3 :: a4 :: a5 :: a6 :: a7 :: a8 :: some x :: r) S = .ok x S := rfl
@[simp] theorem eVar_10 (a0 a1 a2 a3 a4 a5 a6 a7 a8 a9 : Option D) (x : D) (r : Sl) : eVar 10 (a0 :: a1 :: a2 :: a3 :: a4 :: a5 :: a6 :: a7 :: a8 :: a9 :: some x :: r) S = .ok x S := rfl
@[simp] theorem eK_app (d : D) : eK d σ S = .ok d S := rfl
@[simp] theorem eOp_app (op : D → D → Sto → Out D) (a b : DM D) : eOp op a b σ S = (a σ S).bind fun x S1 => (b σ S1).bind fun y S2 => op x y S2 := rfl
@[simp] theorem asB_bl (b : Bool) : asB (.pd (.bool b)) σ S = .ok b S := rfl
@[simp] theorem eTest_app (m : DM D) : eTest m σ S = (m σ S).bind fun d S' => asB d σ S' := rfl
@[simp] theorem tru_bl (b : Bool) : tru (.pd (.bool b)) σ S = .ok b S := rfl
@[simp] theorem eTru_app (m : DM D) : eTru m σ S = (m σ S).bind fun d S' => tru d σ S' := rfl
@[simp] theorem eChain_app (op op' : D → D → Sto → Out D) (a b c : DM D) : eChain op op' a b c σ S = (a σ S).bind fun x S1 => (b σ S1).bind fun y S2 => ((op x y S2).bind fun d S3 => asB d σ S3).bind fun k S3 => if k = true then (c σ S3).bind fun z S4 => op' y z S4 else .ok (.bl false) S3 := by
  unfold eChain
  simp only [mBind_app]
  congr; funext x S1; congr; funext y S2; congr; funext k S3
  cases k <;> rfl
@[simp] theorem bNot_app (m : DM Bool) : bNot m σ S = (m σ S).bind fun k S' => .ok (!k) S' := rfl
@[simp] theorem bAnd_app (m n : DM Bool) : bAnd m n σ S = (m σ S).bind fun k S' => if k = true then n σ S' else .ok false S' := by
  unfold bAnd; simp only [mBind_app]; congr; funext k S'; cases k <;> rfl
@[simp] theorem bOr_app (m n : DM Bool) : bOr m n σ S = (m σ S).bind fun k S' => if k = true then .ok true S' else n σ S' := by
  unfold bOr; simp only [mBind_app]; congr; funext k S'; cases k <;> rfl
@[simp] theorem eNot_app (m : DM D) : eNot m σ S = ((m σ S).bind fun d S' => tru d σ S').bind fun k S' => .ok (.bl (!k)) S' := rfl
@[simp] theorem eAnd_app (m n : DM D) : eAnd m n σ S = (m σ S).bind fun x S1 => (tru x σ S1).bind fun k S2 => if k = true then n σ S2 else .ok x S2 := by
  unfold eAnd; simp only [mBind_app]; congr; funext x S1; congr; funext k S2; cases k <;> rfl
@[simp] theorem eOr_app (m n : DM D) : eOr m n σ S = (m σ S).bind fun x S1 => (tru x σ S1).bind fun k S2 => if k = true then .ok x S2 else n σ S2 := by
  unfold eOr; simp only [mBind_app]; congr; funext x S1; congr; funext k S2; cases k <;> rfl
@[simp] theorem eIf_app (t : DM Bool) (m n : DM D) : eIf t m n σ S = (t σ S).bind fun k S' => if k = true then m σ S' else n σ S' := by
  unfold eIf; simp only [mBind_app]; congr; funext k S'; cases k <;> rfl
@[simp] theorem eUn_app (op : D → Sto → Out D) (m : DM D) : eUn op m σ S = (m σ S).bind fun x S' => op x S' := rfl
@[simp] theorem lNil_app : lNil σ S = .ok [] S := rfl
@[simp] theorem lCons_app (m : DM D) (n : DM (List D)) : lCons m n σ S = (m σ S).bind fun x S1 => (n σ S1).bind fun xs S2 => .ok (x :: xs) S2 := rfl
@[simp] theorem eTup_app (m : DM (List D)) : eTup m σ S = (m σ S).bind fun ds S' => mkTup ds σ S' := rfl
@[simp] theorem eLst_app (m : DM (List D)) : eLst m σ S = (m σ S).bind fun ds S' => mkLst ds σ S' := rfl
@[simp] theorem eLstM_app (m : DM (List D)) : eLstM m σ S = (m σ S).bind fun ds S' => mkLstM ds σ S' := rfl
@[simp] theorem eCall_app (op : LF) (m : DM (List D)) : eCall op m σ S = (m σ S).bind fun ds S' => op ds S' := rfl
@[simp] theorem eSlice_app (m : DM D) (lo hi : DM (Option Int)) : eSlice m lo hi σ S = (m σ S).bind fun d S1 => (lo σ S1).bind fun l S2 => (hi σ S2).bind fun u S3 => slD S3 d l u := rfl
@[simp] theorem asI_int (i : Int) : asI (.pd (.int i)) σ S = .ok (some i) S := rfl
@[simp] theorem eMeth_app (t : String) (op : MF) (mo : DM D) (ml : DM (List D)) : eMeth t op mo ml σ S = (mo σ S).bind fun d S1 => if tyD S1 d = some t then (ml σ S1).bind fun ds S2 => op d ds S2 else .stuck := rfl
@[simp] theorem sNext_app : sNext σ S = .ok (.next σ) S := rfl
@[simp] theorem sNever_app : sNever σ S = .stuck := rfl
@[simp] theorem sBrk_app : sBrk σ S = .ok (.brk σ) S := rfl
@[simp] theorem sCont_app : sCont σ S = .ok (.cont σ) S := rfl
@[simp] theorem sSeq_app (a b : DM Fl) : sSeq a b σ S = (a σ S).bind fun f S' => (match f with | .next σ' => b σ' S' | f => .ok f S') := rfl
@[simp] theorem sSet_app (i : Nat) (m : DM D) : sSet i m σ S = (m σ S).bind fun d S' => .ok (.next (σ.set i (some d))) S' := rfl
@[simp] theorem sExpr_app (m : DM D) : sExpr m σ S = (m σ S).bind fun _ S' => .ok (.next σ) S' := rfl
@[simp] theorem sRet_app (m : DM D) : sRet m σ S = (m σ S).bind fun d S' => .ok (.ret d) S' := rfl
@[simp] theorem sRetN_app : sRetN σ S = .ok (.ret .non) S := rfl
@[simp] theorem sIf_app (c : DM Bool) (a b : DM Fl) : sIf c a b σ S = (c σ S).bind fun k S' => if k = true then a σ S' else b σ S' := rfl
@[simp] theorem sAsg_app (t : TgD) (m : DM D) : sAsg t m σ S = (m σ S).bind fun d S' => (match t d σ with | some σ' => .ok (.next σ') S' | none => .stuck) := rfl
@[simp] theorem eRg1_app (tup : Bool) (m : DM D) : eRg1 tup m σ S = (m σ S).bind fun d S' => (match d with | .pd (.int n) => kRg tup 0 n S' | _ => .stuck) := rfl
@[simp] theorem eIsI_app (t : TyN) (m : DM D) : eIsI t m σ S = (m σ S).bind fun d S' => (match isTy S' t d with | some b => .ok (.bl b) S' | none => .stuck) := rfl
@[simp] theorem opAdd_int (i j : Int) : opAdd (.pd (.int i)) (.pd (.int j)) S = .ok (.int (i + j)) S := rfl
@[simp] theorem opSub_int (i j : Int) : opSub (.pd (.int i)) (.pd (.int j)) S = .ok (.int (i - j)) S := rfl
@[simp] theorem opCmpI_int (f : Int → Int → Bool) (i j : Int) : opCmpI f (.pd (.int i)) (.pd (.int j)) S = .ok (.bl (f i j)) S := rfl
@[simp] theorem opLt_int (i j : Int) : opLt (.pd (.int i)) (.pd (.int j)) S = .ok (.bl (decide (i < j))) S := rfl
@[simp] theorem tgName_app (i : Nat) (d : D) : tgName i d σ = some (σ.set i (some d)) := rfl
@[simp] theorem tgNil_app : tgNil [] σ = some σ := rfl
@[simp] theorem tgCons_app (t : TgD) (u : TgsD) (d : D) (r : List D) : tgCons t u (d :: r) σ = (t d σ).bind (u r) := rfl
@[simp] theorem tgTup_app (t : TgsD) (ds : List PyData) : tgTup t (.pd (.tuple ds)) σ = t (ds.map .pd) σ := rfl
@[simp] theorem clr_nil' : clr [] σ = σ := rfl
@[simp] theorem clr_cons' (i : Nat) (r : List Nat) : clr (i :: r) σ = (clr r σ).set i none := rfl
end
theorem okEq_int (i : Int) : okEq (.int i) = true := by unfold okEq SeqAt.shaped; simp [PyData.canLay0, PyData.depth]
theorem opEq_int (ne : Bool) (i j : Int) (S : Sto) : opEq ne (.pd (.int i)) (.pd (.int j)) S = .ok (.bl (decide (i = j) ^^ ne)) S := by
  show opEq0 ne (.pd (.int i)) (.pd (.int j)) S = _
  unfold opEq0
  simp only [view, okEq_int, Bool.and_self, if_true]
  congr 2
/-- a def's result from its body's -/
theorem runF_pure {n : Nat} {m : DM Fl} {ds : List D} {x : PyData} {S' : Sto} (h : m (startD n ds) [] = .ok (.ret (.pd x)) S') : runF n m ds [] = .ok (.pd x) [] := by
  unfold runF
  simp [h, fin]
theorem runF_next {n : Nat} {m : DM Fl} {ds : List D} {σ : Sl} {S' : Sto} (h : m (startD n ds) [] = .ok (.next σ) S') : runF n m ds [] = .ok .non [] := by
  unfold runF
  simp [h, fin]
theorem runF_retL {n : Nat} {m : DM Fl} {ds : List D} {k : Nat} {xs : List PyData} {S' : Sto} (h : m (startD n ds) [] = .ok (.ret (.ref k)) S') (hk : S'[k]? = some (.lst (xs.map .pd))) : runF n m ds [] = .ok (.lst xs) [] := by
  unfold runF
  simp [h, fin, frz, hk]
/-- what a reading comes to -/
def Sat {α : Type} (o : Out α) (P : α → Sto → Prop) : Prop := ∃ a S, o = .ok a S ∧ P a S
theorem Sat.ok {α : Type} {a : α} {S : Sto} {P : α → Sto → Prop} (h : P a S) : Sat (.ok a S) P := ⟨a, S, rfl, h⟩
theorem Sat.bind {α β : Type} {m : Out α} {f : α → Sto → Out β} {P : α → Sto → Prop} {Q : β → Sto → Prop} (h : Sat m P) (k : ∀ a S, P a S → Sat (f a S) Q) : Sat (m.bind f) Q := by
  obtain ⟨a, S, rfl, p⟩ := h
  exact k a S p
theorem Sat.imp {α : Type} {o : Out α} {P Q : α → Sto → Prop} (h : Sat o P) (k : ∀ a S, P a S → Q a S) : Sat o Q := by
  obtain ⟨a, S, e, p⟩ := h
  exact ⟨a, S, e, k a S p⟩
/-- for: an invariant over what is left -/
theorem forGo_sat {gu : Gu} {t : TgD} {body : DM Fl} {vs : List Nat} {P : Fl → Sto → Prop} (I : List D → Sl → Sto → Prop) (hg : ∀ l σ S, I l σ S → gu.ok S) (h0 : ∀ σ S, I [] σ S → P (.next σ) S)
    (hs : ∀ d r σ S, I (d :: r) σ S → ∃ σ1, t d σ = some σ1 ∧ Sat (body σ1 S) fun f S' => match f with
      | .next σ2 => I r (clr vs σ2) S'
      | .cont σ2 => I r (clr vs σ2) S'
      | .brk σ2 => P (.next (clr vs σ2)) S'
      | .ret d => P (.ret d) S') : ∀ (l : List D) (σ : Sl) (S : Sto), I l σ S → Sat (forGo gu t body vs l σ S) P := by
  intro l
  induction l with
  | nil =>
    intro σ S h
    unfold forGo
    rw [if_pos (hg _ _ _ h)]
    exact .ok (h0 σ S h)
  | cons d r ih =>
    intro σ S h
    unfold forGo
    rw [if_pos (hg _ _ _ h)]
    obtain ⟨σ1, e, f, S', eb, q⟩ := hs d r σ S h
    simp only [e, eb, Out.bind_ok]
    cases f with
    | next σ2 => exact ih _ _ q
    | cont σ2 => exact ih _ _ q
    | brk σ2 => exact .ok q
    | ret d => exact .ok q
/-- a comprehension whose test and element change nothing -/
theorem lcGo_pure {gu : Gu} {t : TgD} {tt : DM Bool} {te : DM D} {σ : Sl} {S : Sto} (hg : gu.ok S) (p : D → Bool) (f : D → D) : ∀ (l acc : List D), (∀ d ∈ l, ∃ σ1, t d σ = some σ1 ∧ tt σ1 S = .ok (p d) S ∧ (p d = true → te σ1 S = .ok (f d) S)) → acc.length + l.length ≤ sizeLine →
    lcGo gu t tt te l acc σ S = .ok (acc ++ (l.filter p).map f) S
  | [], acc, _, _ => by
    unfold lcGo
    rw [if_pos hg]
    simp
  | d :: r, acc, h, hl => by
    unfold lcGo
    rw [if_pos hg]
    obtain ⟨σ1, e1, e2, e3⟩ := h d List.mem_cons_self
    simp only [e1, e2, Out.bindN_ok]
    have hr : ∀ d ∈ r, ∃ σ1, t d σ = some σ1 ∧ tt σ1 S = .ok (p d) S ∧ (p d = true → te σ1 S = .ok (f d) S) := fun d hd => h d (List.mem_cons_of_mem _ hd)
    rw [List.length_cons] at hl
    cases hp : p d with
    | true =>
      rw [if_pos rfl, e3 hp]
      simp only [Out.bindN_ok]
      rw [if_pos (by omega), lcGo_pure hg p f r (acc ++ [f d]) hr (by rw [List.length_append, List.length_singleton]; omega)]
      simp [List.filter_cons, hp]
    | false =>
      rw [if_neg Bool.false_ne_true, lcGo_pure hg p f r acc hr (by omega)]
      simp [List.filter_cons, hp]
/-- a comprehension: an invariant over what is left and what is gathered -/
theorem lcGo_sat {gu : Gu} {t : TgD} {tt : DM Bool} {te : DM D} {σ : Sl} {P : List D → Sto → Prop} (I : List D → List D → Sto → Prop) (hg : ∀ l acc S, I l acc S → gu.ok S) (h0 : ∀ acc S, I [] acc S → P acc S)
    (hs : ∀ d r acc S, I (d :: r) acc S → ∃ σ1, t d σ = some σ1 ∧ Sat (tt σ1 S) fun b S1 => if b = true then Sat (te σ1 S1) fun y S2 => acc.length < sizeLine ∧ I r (acc ++ [y]) S2 else I r acc S1) :
    ∀ (l acc : List D) (S : Sto), I l acc S → Sat (lcGo gu t tt te l acc σ S) P := by
  intro l
  induction l with
  | nil =>
    intro acc S h
    unfold lcGo
    rw [if_pos (hg _ _ _ h)]
    exact .ok (h0 acc S h)
  | cons d r ih =>
    intro acc S h
    unfold lcGo
    rw [if_pos (hg _ _ _ h)]
    obtain ⟨σ1, e, b, S1, eb, q⟩ := hs d r acc S h
    simp only [e, eb, Out.bindN_ok]
    cases b with
    | true =>
      rw [if_pos rfl] at q
      rw [if_pos rfl]
      obtain ⟨y, S2, ey, hl, q⟩ := q
      simp only [ey, Out.bindN_ok]
      rw [if_pos hl]
      exact ih _ _ q
    | false =>
      rw [if_neg Bool.false_ne_true] at q
      rw [if_neg Bool.false_ne_true]
      exact ih _ _ q
end DL
end
section
namespace DL
open PySem PySem.Spec PyProof.Rows L2
section
variable {σ : Sl} {S : Sto}
theorem lcGo_map {α : Type} {gu : Gu} {t : TgD} {tt : DM Bool} {te : DM D} (hg : gu.ok S) (g : α → D) (P : α → Bool) (F : α → PyData) : ∀ (l : List α) (acc : List D), (∀ a ∈ l, ∃ σ1, t (g a) σ = some σ1 ∧ tt σ1 S = .ok (P a) S ∧ (P a = true → te σ1 S = .ok (.pd (F a)) S)) →
    acc.length + l.length ≤ sizeLine → lcGo gu t tt te (l.map g) acc σ S = .ok (acc ++ ((l.filter P).map fun a => .pd (F a))) S
  | [], acc, _, _ => by
    show lcGo gu t tt te [] acc σ S = _
    unfold lcGo
    rw [if_pos hg]
    simp
  | a :: r, acc, h, hl => by
    show lcGo gu t tt te (g a :: r.map g) acc σ S = _
    unfold lcGo
    rw [if_pos hg]
    obtain ⟨σ1, e1, e2, e3⟩ := h a List.mem_cons_self
    simp only [e1, e2, Out.bindN_ok]
    have hr := fun b hb => h b (List.mem_cons_of_mem _ hb)
    rw [List.length_cons] at hl
    cases hp : P a with
    | true =>
      rw [if_pos rfl, e3 hp]
      simp only [Out.bindN_ok]
      rw [if_pos (by omega), lcGo_map hg g P F r (acc ++ [D.pd (F a)]) hr (by rw [List.length_append, List.length_singleton]; omega)]
      simp [List.filter_cons, hp]
    | false =>
      rw [if_neg Bool.false_ne_true, lcGo_map hg g P F r acc hr (by omega)]
      simp [List.filter_cons, hp]
/-- a comprehension over data that changes nothing -/
theorem lcAll_map {α : Type} {vs : List Nat} {w : DM Wk} {gu : Gu} {t : TgD} {tt : DM Bool} {te : DM D} (l : List α) (g : α → D) (P : α → Bool) (F : α → PyData) (hw : w σ S = .ok ⟨l.map g, gu⟩ S) (hg : gu.ok S)
    (h : ∀ a ∈ l, ∃ σ1, t (g a) (clr vs σ) = some σ1 ∧ tt σ1 S = .ok (P a) S ∧ (P a = true → te σ1 S = .ok (.pd (F a)) S)) (hl : l.length ≤ sizeLine) : lcAll vs w t tt te σ S = .ok ((l.filter P).map fun a => .pd (F a)) S := by
  unfold lcAll
  rw [hw]
  show lcGo gu t tt te (l.map g) [] (clr vs σ) S = _
  rw [lcGo_map hg g P F l [] h (by simpa using hl)]
  simp
theorem mkF_map {α : Type} (l : List α) (F : α → PyData) : mkF (l.map fun a => .pd (F a)) σ S = .ok (.lst (l.map F)) S := by
  unfold mkF
  have : (l.map fun a => D.pd (F a)) = (l.map F).map .pd := by rw [List.map_map]; rfl
  rw [this, pdL_map]
theorem eLc_map {α : Type} {vs : List Nat} {w : DM Wk} {gu : Gu} {t : TgD} {tt : DM Bool} {te : DM D} (l : List α) (g : α → D) (P : α → Bool) (F : α → PyData) (hw : w σ S = .ok ⟨l.map g, gu⟩ S) (hg : gu.ok S)
    (h : ∀ a ∈ l, ∃ σ1, t (g a) (clr vs σ) = some σ1 ∧ tt σ1 S = .ok (P a) S ∧ (P a = true → te σ1 S = .ok (.pd (F a)) S)) (hl : l.length ≤ sizeLine) : eLc vs w t tt te σ S = .ok (.lst ((l.filter P).map F)) S := by
  unfold eLc
  rw [mBind_app, lcAll_map l g P F hw hg h hl, Out.bind_ok, mkF_map]
/-- .. without a test -/
theorem eLc_all {α : Type} {vs : List Nat} {w : DM Wk} {gu : Gu} {t : TgD} {te : DM D} (l : List α) (g : α → D) (F : α → PyData) (hw : w σ S = .ok ⟨l.map g, gu⟩ S) (hg : gu.ok S)
    (h : ∀ a ∈ l, ∃ σ1, t (g a) (clr vs σ) = some σ1 ∧ te σ1 S = .ok (.pd (F a)) S) (hl : l.length ≤ sizeLine) : eLc vs w t (mRet true) te σ S = .ok (.lst (l.map F)) S := by
  have := eLc_map (vs := vs) (w := w) (t := t) (tt := mRet true) (te := te) l g (fun _ => true) F hw hg (fun a ha => by
    obtain ⟨σ1, e1, e2⟩ := h a ha
    exact ⟨σ1, e1, rfl, fun _ => e2⟩) hl
  rw [this, List.filter_eq_self.mpr (fun _ _ => rfl)]
theorem iSeq_tup {m : DM D} {xs : List PyData} (h : m σ S = .ok (.tup xs) S) : iSeq m σ S = .ok ⟨xs.map .pd, .no⟩ S := by
  unfold iSeq; rw [mBind_app, h]; rfl
theorem iSeq_lst {m : DM D} {xs : List PyData} (h : m σ S = .ok (.lst xs) S) : iSeq m σ S = .ok ⟨xs.map .pd, .no⟩ S := by
  unfold iSeq; rw [mBind_app, h]; rfl
theorem iSeq_ref {m : DM D} {n : Nat} {xs : List D} (h : m σ S = .ok (.ref n) S) (hn : S[n]? = some (.lst xs)) : iSeq m σ S = .ok ⟨xs, .at n (.lst xs)⟩ S := by
  unfold iSeq; rw [mBind_app, h]
  simp [wkSeq, asQ, asL, guOf, hn]
theorem iRange1_nat {ml : DM (List D)} {n : Nat} (h : ml σ S = .ok [.int n] S) (hn : n ≤ 1000000) : iRange1 ml σ S = .ok ⟨(List.range n).map fun (i : Nat) => D.int i, .no⟩ S := by
  have hb : -(2 ^ 62) ≤ (n : Int) ∧ (n : Int) < 2 ^ 62 := by omega
  have e : rangeOf1 [.int n] σ S = .ok (wkRange 0 ((n : Int)).toNat) S := by
    unfold rangeOf1
    simp only [hb, and_self, if_true]
  unfold iRange1
  rw [mBind_app, h, Out.bind_ok, e, Int.toNat_natCast]
  have e2 : ((List.range n).map fun (i : Nat) => D.int (0 + (i : Int))) = (List.range n).map fun (i : Nat) => D.int i := List.map_congr_left fun i _ => by rw [Int.zero_add]
  unfold wkRange
  rw [e2]
theorem sFor_app (vs : List Nat) (w : DM Wk) (t : TgD) (body : DM Fl) : sFor vs w t body σ S = (w σ S).bind fun wk S' => forGo wk.gu t body vs wk.items (clr vs σ) S' := rfl
/-! ### while -/
theorem whileN_mono {c : DM Bool} {body : DM Fl} {vs : List Nat} : ∀ (n : Nat) {σ : Sl} {S : Sto}, whileN c body vs n σ S ≠ .stuck → ∀ k, whileN c body vs (n + k) σ S = whileN c body vs n σ S
  | 0, σ, S, h, k => absurd rfl h
  | n + 1, σ, S, h, k => by
    rw [show n + 1 + k = (n + k) + 1 by omega]
    unfold whileN at h ⊢
    cases e : c σ S with
    | ok b S1 =>
      rw [e] at h
      simp only [Out.bind_ok] at h ⊢
      cases b with
      | false => rfl
      | true =>
        simp only [if_true] at h ⊢
        cases e2 : body σ S1 with
        | ok f S2 =>
          rw [e2] at h
          simp only [Out.bind_ok] at h ⊢
          cases f with
          | next σ2 => exact whileN_mono n h k
          | cont σ2 => exact whileN_mono n h k
          | brk σ2 => rfl
          | ret d => rfl
        | exc _ _ _ => rfl
        | stuck => rfl
    | exc _ _ _ => rfl
    | stuck => rfl
theorem whileN_same {c : DM Bool} {body : DM Fl} {vs : List Nat} {n m : Nat} (h : whileN c body vs n σ S ≠ .stuck) (h' : whileN c body vs m σ S ≠ .stuck) : whileN c body vs n σ S = whileN c body vs m σ S := by
  rcases Nat.le_total n m with q | q
  · obtain ⟨k, rfl⟩ := Nat.exists_eq_add_of_le q
    exact (whileN_mono n h k).symm
  · obtain ⟨k, rfl⟩ := Nat.exists_eq_add_of_le q
    exact whileN_mono m h' k
theorem sWhile_of {c : DM Bool} {body : DM Fl} {vs : List Nat} {n : Nat} {P : Fl → Sto → Prop} (h : Sat (whileN c body vs n (clr vs σ) S) P) : Sat (sWhile vs c body σ S) P := by
  obtain ⟨f, S', e, p⟩ := h
  have ns : whileN c body vs n (clr vs σ) S ≠ .stuck := by rw [e]; intro z; cases z
  have hex : ∃ n, whileN c body vs n (clr vs σ) S ≠ .stuck := ⟨n, ns⟩
  unfold sWhile
  rw [dif_pos hex, whileN_same (Classical.choose_spec hex) ns, e]
  exact .ok p
/-- an invariant with a number that falls -/
theorem sWhile_sat {c : DM Bool} {body : DM Fl} {vs : List Nat} {P : Fl → Sto → Prop} (I : Nat → Sl → Sto → Prop)
    (hs : ∀ m σ S, I m σ S → Sat (c σ S) fun k S1 => if k = true then Sat (body σ S1) (fun f S2 => match f with
      | .next σ2 => ∃ m', m' < m ∧ I m' (clr vs σ2) S2
      | .cont σ2 => ∃ m', m' < m ∧ I m' (clr vs σ2) S2
      | .brk σ2 => P (.next (clr vs σ2)) S2
      | .ret d => P (.ret d) S2) else P (.next σ) S1) {m : Nat} (h : I m (clr vs σ) S) : Sat (sWhile vs c body σ S) P := by
  have go : ∀ m σ S, I m σ S → ∃ n, Sat (whileN c body vs n σ S) P := by
    intro m
    induction m using Nat.strongRecOn with
    | ind m ih =>
      intro σ S h
      obtain ⟨k, S1, ec, q⟩ := hs m σ S h
      cases k with
      | false =>
        refine ⟨1, ?_⟩
        unfold whileN
        rw [ec]
        exact .ok q
      | true =>
        obtain ⟨f, S2, eb, q⟩ := q
        cases f with
        | next σ2 =>
          obtain ⟨m', hm, hi⟩ := q
          obtain ⟨n, hn⟩ := ih m' hm _ _ hi
          refine ⟨n + 1, ?_⟩
          unfold whileN
          rw [ec]
          simp only [Out.bind_ok, if_true, eb]
          exact hn
        | cont σ2 =>
          obtain ⟨m', hm, hi⟩ := q
          obtain ⟨n, hn⟩ := ih m' hm _ _ hi
          refine ⟨n + 1, ?_⟩
          unfold whileN
          rw [ec]
          simp only [Out.bind_ok, if_true, eb]
          exact hn
        | brk σ2 =>
          refine ⟨1, ?_⟩
          unfold whileN
          rw [ec]
          simp only [Out.bind_ok, if_true, eb]
          exact .ok q
        | ret d =>
          refine ⟨1, ?_⟩
          unfold whileN
          rw [ec]
          simp only [Out.bind_ok, if_true, eb]
          exact .ok q
  obtain ⟨n, hn⟩ := go m _ _ h
  exact sWhile_of hn
/-! ### the built-ins on data -/
theorem fAll_lst (bs : List Bool) : fAll [.lst (bs.map .bool)] S = .ok (.bl (bs.all fun b => b)) S := by
  show (match blsOf S (.lst (bs.map .bool)) with | some bs => Out.ok (D.bl (bs.all fun b => b)) S | none => .stuck) = _
  have : blsOf S (.lst (bs.map .bool)) = some bs := by
    unfold blsOf asL
    dsimp only
    rw [pdL_map]
    exact blsL_map bs
  rw [this]
theorem fAll_map {α : Type} (l : List α) (P : α → Bool) : fAll [.lst (l.map fun a => .bool (P a))] S = .ok (.bl (l.all P)) S := by
  have := fAll_lst (S := S) (l.map P)
  rw [List.map_map] at this
  rw [show (fun a => PyData.bool (P a)) = (PyData.bool ∘ P) from rfl, this, List.all_map]
  rfl
@[simp] theorem fTuple_lst (xs : List PyData) : fTuple [.lst xs] S = .ok (.tup xs) S := by
  show (match asL S (.lst xs) with | some ys => (match pdL ys with | some zs => Out.ok (D.tup zs) S | none => .stuck) | none => .stuck) = _
  unfold asL
  dsimp only
  rw [pdL_map]
@[simp] theorem fLen_tup (xs : List PyData) : fLen [.tup xs] S = .ok (.int xs.length) S := by simp [fLen, asQ]
@[simp] theorem fLen_lst (xs : List PyData) : fLen [.lst xs] S = .ok (.int xs.length) S := by simp [fLen, asQ, asL]
theorem atI_nat {α : Type} {xs : List α} {i : Nat} (h : i < xs.length) : atI xs (i : Int) = xs[i]? := by
  unfold atI ixN
  rw [if_pos (by omega), if_pos (by omega)]
  simp
@[simp] theorem ofO_some {α : Type} (d : α) : ofO (some d) S = .ok d S := rfl
@[simp] theorem atI_0 {α : Type} (x : α) (r : List α) : atI (x :: r) 0 = some x := by
  have := atI_nat (xs := x :: r) (i := 0) (by simp)
  simpa using this
@[simp] theorem atI_1 {α : Type} (x y : α) (r : List α) : atI (x :: y :: r) 1 = some y := by
  have := atI_nat (xs := x :: y :: r) (i := 1) (by simp)
  simpa using this
@[simp] theorem atI_2 {α : Type} (x y z : α) (r : List α) : atI (x :: y :: z :: r) 2 = some z := by
  have := atI_nat (xs := x :: y :: z :: r) (i := 2) (by simp)
  simpa using this
theorem opIx_tup (xs : List PyData) (i : Int) : opIx (.tup xs) (.int i) S = ofO (atI (xs.map .pd) i) S := rfl
theorem opIx_lst (xs : List PyData) (i : Int) : opIx (.lst xs) (.int i) S = ofO (atI (xs.map .pd) i) S := rfl
theorem opIx_ref {n : Nat} {xs : List D} (h : S[n]? = some (.lst xs)) (i : Int) : opIx (.ref n) (.int i) S = ofO (atI xs i) S := by
  unfold opIx asQ asL
  simp [h]
theorem opIx_tupN {xs : List PyData} {i : Nat} {x : PyData} (h : xs[i]? = some x) : opIx (.tup xs) (.int i) S = .ok (.pd x) S := by
  have hl : i < (xs.map D.pd).length := by rw [List.length_map]; exact (List.getElem?_eq_some_iff.mp h).1
  rw [opIx_tup, atI_nat hl, List.getElem?_map, h]; rfl
theorem opIx_lstN {xs : List PyData} {i : Nat} {x : PyData} (h : xs[i]? = some x) : opIx (.lst xs) (.int i) S = .ok (.pd x) S := by
  have hl : i < (xs.map D.pd).length := by rw [List.length_map]; exact (List.getElem?_eq_some_iff.mp h).1
  rw [opIx_lst, atI_nat hl, List.getElem?_map, h]; rfl
theorem opIx_refN {n : Nat} {xs : List D} (hn : S[n]? = some (.lst xs)) {i : Nat} {x : D} (h : xs[i]? = some x) : opIx (.ref n) (.int i) S = .ok x S := by
  rw [opIx_ref hn, atI_nat (List.getElem?_eq_some_iff.mp h).1, h]; rfl
@[simp] theorem opIx_tup0 (x : PyData) (r : List PyData) : opIx (.tup (x :: r)) (.int 0) S = .ok (.pd x) S := by rw [opIx_tup]; simp
@[simp] theorem opIx_tup1 (x y : PyData) (r : List PyData) : opIx (.tup (x :: y :: r)) (.int 1) S = .ok (.pd y) S := by rw [opIx_tup]; simp
end
end DL
namespace DL
open PySem PySem.Spec PyProof.Rows L2
theorem sSeq_next {a b : DM Fl} {σ σ' : Sl} {S S' : Sto} (h : a σ S = .ok (.next σ') S') : sSeq a b σ S = b σ' S' := by rw [sSeq_app, h]; rfl
theorem sSet_ok {i : Nat} {m : DM D} {d : D} {σ : Sl} {S S' : Sto} (h : m σ S = .ok d S') : sSet i m σ S = .ok (.next (σ.set i (some d))) S' := by rw [sSet_app, h]; rfl
theorem sRet_ok {m : DM D} {d : D} {σ : Sl} {S S' : Sto} (h : m σ S = .ok d S') : sRet m σ S = .ok (.ret d) S' := by rw [sRet_app, h]; rfl
theorem eCall1_ok {f : LF} {m : DM D} {d d' : D} {σ : Sl} {S S' S2 : Sto} (h : m σ S = .ok d S') (hf : f [d] S' = .ok d' S2) : eCall f (lCons m lNil) σ S = .ok d' S2 := by
  rw [eCall_app, lCons_app, h]; exact hf
theorem call1_ok {n : Nat} {f : DF} {m : DM D} {d d' : D} {σ : Sl} {S S' S2 : Sto} (h : m σ S = .ok d S') (hf : callF n f [d] σ S' = .ok d' S2) : mBind (lCons m lNil) (callF n f) σ S = .ok d' S2 := by
  rw [mBind_app, lCons_app, h]; exact hf
end DL
namespace DL
open PySem PySem.Spec PyProof.Rows L2
theorem sExpr_ok {m : DM D} {d : D} {σ : Sl} {S S' : Sto} (h : m σ S = .ok d S') : sExpr m σ S = .ok (.next σ) S' := by rw [sExpr_app, h]; rfl
theorem call2_ok {n : Nat} {f : DF} {m m2 : DM D} {d e d' : D} {σ : Sl} {S S' S2 S3 : Sto} (h : m σ S = .ok d S') (h2 : m2 σ S' = .ok e S2) (hf : callF n f [d, e] σ S2 = .ok d' S3) : mBind (lCons m (lCons m2 lNil)) (callF n f) σ S = .ok d' S3 := by
  rw [mBind_app, lCons_app, h, Out.bind_ok, lCons_app, h2]; exact hf
theorem call3_ok {n : Nat} {f : DF} {m m2 m3 : DM D} {d e e3 d' : D} {σ : Sl} {S S' S2 S3 S4 : Sto} (h : m σ S = .ok d S') (h2 : m2 σ S' = .ok e S2) (h3 : m3 σ S2 = .ok e3 S3) (hf : callF n f [d, e, e3] σ S3 = .ok d' S4) : mBind (lCons m (lCons m2 (lCons m3 lNil))) (callF n f) σ S = .ok d' S4 := by
  rw [mBind_app, lCons_app, h, Out.bind_ok, lCons_app, h2, Out.bind_ok, lCons_app, h3]; exact hf
theorem eOp_ok {op : D → D → Sto → Out D} {m m2 : DM D} {d e d' : D} {σ : Sl} {S S' S2 S3 : Sto} (h : m σ S = .ok d S') (h2 : m2 σ S' = .ok e S2) (hf : op d e S2 = .ok d' S3) : eOp op m m2 σ S = .ok d' S3 := by
  rw [eOp_app, h, Out.bind_ok, h2]; exact hf
theorem eTup1_ok {m : DM D} {x : PyData} {σ : Sl} {S S' : Sto} (h : m σ S = .ok (.pd x) S') : eTup (lCons m lNil) σ S = .ok (.tup [x]) S' := by
  rw [eTup_app, lCons_app, h]
  show mkTup [.pd x] σ S' = _
  unfold mkTup
  simp only [pdL_cons, pdL_nil, Option.map_some]
  rw [if_pos (by rw [sizeLine_eq]; simp)]
end DL
namespace DL
open PySem PySem.Spec PyProof.Rows L2
/-- for i in range(n): what stands at each turn -/
theorem forGo_range {i : Nat} {body : DM Fl} {vs : List Nat} {P : Fl → Sto → Prop} (n : Nat) (I : Nat → Sl → Sto → Prop)
    (hs : ∀ j σ S, j < n → I j σ S → Sat (body (σ.set i (some (.int j))) S) fun f S' => match f with
      | .next σ2 => I (j + 1) (clr vs σ2) S'
      | .cont σ2 => I (j + 1) (clr vs σ2) S'
      | .brk σ2 => P (.next (clr vs σ2)) S'
      | .ret d => P (.ret d) S') (h0 : ∀ σ S, I n σ S → P (.next σ) S) {σ : Sl} {S : Sto} (h : I 0 σ S) : Sat (forGo .no (tgName i) body vs ((List.range n).map fun (j : Nat) => D.int j) σ S) P := by
  have go : ∀ k j σ S, j + k = n → I j σ S → Sat (forGo .no (tgName i) body vs ((List.range' j k).map fun (j : Nat) => D.int j) σ S) P := by
    intro k
    induction k with
    | zero =>
      intro j σ S e h
      show Sat (forGo .no (tgName i) body vs [] σ S) P
      unfold forGo
      rw [if_pos (by exact trivial)]
      have : j = n := by omega
      subst this
      exact .ok (h0 σ S h)
    | succ k ih =>
      intro j σ S e h
      show Sat (forGo .no (tgName i) body vs (.int j :: (List.range' (j + 1) k).map fun (j : Nat) => D.int j) σ S) P
      unfold forGo
      rw [if_pos (by exact trivial)]
      obtain ⟨f, S', eb, q⟩ := hs j σ S (by omega) h
      simp only [tgName_app, eb, Out.bind_ok]
      cases f with
      | next σ2 => exact ih (j + 1) _ _ (by omega) q
      | cont σ2 => exact ih (j + 1) _ _ (by omega) q
      | brk σ2 => exact .ok q
      | ret d => exact .ok q
  rw [List.range_eq_range']
  exact go n 0 σ S (by omega) h
theorem opEq_ex (ne : Bool) {x y : PyData} (hx : okEq x = true) (hy : okEq y = true) (S : Sto) (hn : ∀ i, x ≠ .str i := by intro i h; cases h) : opEq ne (.pd x) (.pd y) S = .ok (.bl (PyData.eqv x y ^^ ne)) S := by
  have e : opEq ne (.pd x) (.pd y) S = opEq0 ne (.pd x) (.pd y) S := by
    cases x with
    | str i => exact absurd rfl (hn i)
    | _ => rfl
  rw [e]
  unfold opEq0
  simp only [view, hx, hy, Bool.and_self, if_true]
theorem mkTup2 (x y : PyData) (σ : Sl) (S : Sto) : mkTup [.pd x, .pd y] σ S = .ok (.tup [x, y]) S := by
  unfold mkTup
  simp only [pdL_cons, pdL_nil, Option.map_some]
  rw [if_pos (by rw [sizeLine_eq]; simp)]
theorem mkLst1 (x : PyData) (σ : Sl) (S : Sto) : mkLst [.pd x] σ S = .ok (.lst [x]) S := by
  unfold mkLst
  simp only [pdL_cons, pdL_nil, Option.map_some]
  rw [if_pos (by rw [sizeLine_eq]; simp)]
theorem mul_bit (x : PyData) (k : Bool) (S : Sto) : opMul2 (.lst [x]) (.int (if k = true then 1 else 0)) S = .ok (.lst (if k = true then [x] else [])) S := by
  have e : ∀ i : Int, opMul2 (.lst [x]) (.int i) S = if -(2 ^ 63) ≤ i ∧ i < 2 ^ 63 ∧ [x].length * i.toNat ≤ sizeLine then .ok (.lst (List.replicate i.toNat [x]).flatten) S else .stuck := fun i => rfl
  rw [e]
  cases k with
  | true =>
    rw [if_pos ⟨by decide, by decide, by rw [sizeLine_eq]; simp⟩]
    rfl
  | false =>
    rw [if_pos ⟨by decide, by decide, by simp⟩]
    rfl
end DL
end
section
namespace DL
open PySem PySem.Spec PyProof.Rows L2
/-! ### how long a repr is -/
mutual
def wt : PyData → Nat
  | .none => 5
  | .bool _ => 5
  | .int _ => 12
  | .str _ => 0
  | .list xs => wtAll xs + 3
  | .tuple xs => wtAll xs + 3
  | .dict _ => 0
def wtAll : List PyData → Nat
  | [] => 0
  | x :: xs => wt x + 2 + wtAll xs
end
mutual
/-- none, truths, ints of at most ten figures, rows of these -/
def small : PyData → Bool
  | .none => true
  | .bool _ => true
  | .int i => decide (0 ≤ i) && decide (i < 10 ^ 10)
  | .str _ => false
  | .list xs => smallAll xs
  | .tuple xs => smallAll xs
  | .dict _ => false
def smallAll : List PyData → Bool
  | [] => true
  | x :: xs => small x && smallAll xs
end
mutual
theorem small_shown : ∀ d : PyData, small d = true → d.shown.length ≤ wt d ∧ d.showable = true ∧ d.hasDict = false
  | .none, _ => ⟨by show (("None" : Str)).length ≤ 5; decide, rfl, rfl⟩
  | .bool true, _ => ⟨by show (("True" : Str)).length ≤ 5; decide, rfl, rfl⟩
  | .bool false, _ => ⟨by show (("False" : Str)).length ≤ 5; decide, rfl, rfl⟩
  | .int i, h => by
    unfold small at h
    rw [Bool.and_eq_true, decide_eq_true_eq, decide_eq_true_eq] at h
    refine ⟨?_, ?_, rfl⟩
    · have := PySem.W.KT.len_num h.1 h.2
      show (Str.ofString (toString i)).length ≤ 12
      omega
    · unfold PyData.showable
      apply decide_eq_true
      have h2 : i.natAbs < 2 ^ 64 := by omega
      by_cases h0 : i.natAbs = 0
      · rw [h0]; decide
      · exact Nat.lt_trans ((Nat.log2_lt h0).mpr h2) (by decide)
  | .str _, h => by simp [small] at h
  | .dict _, h => by simp [small] at h
  | .list xs, h => by
    obtain ⟨h1, h2, h3, h4⟩ := small_all xs (by simpa [small] using h)
    refine ⟨?_, by simpa [PyData.showable] using h2, by simpa [PyData.hasDict] using h3⟩
    have := listText_len_le (PyData.shownAll xs)
    show (listText (PyData.shownAll xs)).length ≤ wtAll xs + 3
    omega
  | .tuple xs, h => by
    obtain ⟨h1, h2, h3, h4⟩ := small_all xs (by simpa [small] using h)
    refine ⟨?_, by simpa [PyData.showable] using h2, by simpa [PyData.hasDict] using h3⟩
    have := tupleText_len_le (PyData.shownAll xs)
    show (tupleText (PyData.shownAll xs)).length ≤ wtAll xs + 3
    omega
theorem small_all : ∀ xs : List PyData, smallAll xs = true → ((PyData.shownAll xs).map (·.length)).sum + 2 * (PyData.shownAll xs).length ≤ wtAll xs ∧ PyData.showableAll xs = true ∧ PyData.hasDictAll xs = false ∧ True
  | [], _ => ⟨Nat.le_refl _, rfl, rfl, trivial⟩
  | x :: xs, h => by
    unfold smallAll at h
    rw [Bool.and_eq_true] at h
    obtain ⟨a1, a2, a3⟩ := small_shown x h.1
    obtain ⟨b1, b2, b3, _⟩ := small_all xs h.2
    refine ⟨?_, by rw [PyData.showableAll, a2, b2]; rfl, by rw [PyData.hasDictAll, a3, b3]; rfl, trivial⟩
    rw [PyData.shownAll, List.map_cons, List.sum_cons, List.length_cons, wtAll]
    omega
end
theorem reprOk_small {d : PyData} (h : small d = true) (hd : d.depth ≤ 60) (hw : wt d ≤ 1000000) : reprOk d = true := by
  obtain ⟨h1, h2, h3⟩ := small_shown d h
  unfold reprOk
  rw [h2, h3, decide_eq_true hd, decide_eq_true (show d.shown.length ≤ sizeLine by rw [sizeLine_eq]; omega)]
  rfl
theorem fRepr_pd {d : PyData} (h : reprOk d = true) (S : Sto) : fRepr [.pd d] S = .ok (.str d.shown) S := by
  unfold fRepr
  simp only [view, h, if_true]
theorem neStr (x : Str) (S : Sto) : opEq true (.str x) (.str x) S = .ok (.bl false) S := by
  show Out.ok (D.bl (decide (x = x) ^^ true)) S = _
  simp
theorem eqStr (x : Str) (S : Sto) : opEq false (.str x) (.str x) S = .ok (.bl true) S := by
  show Out.ok (D.bl (decide (x = x) ^^ false)) S = _
  simp
/-- repr(a) != repr(b), of the same data -/
theorem neRepr {a b : DM D} {d : PyData} {σ : Sl} {S S1 S2 : Sto} (h : reprOk d = true) (ha : a σ S = .ok (.pd d) S1) (hb : b σ S1 = .ok (.pd d) S2) : eTest (eOp (opEq true) (eCall fRepr (lCons a lNil)) (eCall fRepr (lCons b lNil))) σ S = .ok false S2 := by
  rw [eTest_app, eOp_ok (eCall1_ok ha (fRepr_pd h S1)) (eCall1_ok hb (fRepr_pd h S2)) (neStr _ S2)]
  rfl
end DL
end
section
/-! plain graphs: fewest steps by a queue, by putting right again and again -/
namespace PG
open Classical
section
variable {A : Nat → Nat → Prop} {src : Nat → Prop}
/-- within so many steps of a source -/
def ball (A : Nat → Nat → Prop) (src : Nat → Prop) : Nat → Nat → Prop
  | 0, v => src v
  | k + 1, v => ball A src k v ∨ ∃ u, ball A src k u ∧ A u v
theorem ball_mono {k m v : Nat} (h : ball A src k v) (hm : k ≤ m) : ball A src m v := by
  induction hm with
  | refl => exact h
  | step _ ih => exact .inl ih
theorem ball_step {k u v : Nat} (h : ball A src k u) (a : A u v) : ball A src (k + 1) v := .inr ⟨u, h, a⟩
theorem ball_lt {n : Nat} (hs : ∀ v, src v → v < n) (ha : ∀ u v, A u v → v < n) : ∀ {k v : Nat}, ball A src k v → v < n
  | 0, v, h => hs v h
  | k + 1, v, h => h.elim (fun h => ball_lt hs ha h) fun ⟨u, _, a⟩ => ha u v a
/-- the fewest steps -/
def IsDist (A : Nat → Nat → Prop) (src : Nat → Prop) (v d : Nat) : Prop := ball A src d v ∧ ∀ k, ball A src k v → d ≤ k
theorem IsDist.uniq {v d e : Nat} (h : IsDist A src v d) (h' : IsDist A src v e) : d = e := Nat.le_antisymm (h.2 _ h'.1) (h'.2 _ h.1)
theorem exists_dist {v k : Nat} (h : ball A src k v) : ∃ d, IsDist A src v d := by
  induction k with
  | zero => exact ⟨0, h, fun _ _ => Nat.zero_le _⟩
  | succ k ih =>
    by_cases h' : ball A src k v
    · exact ih h'
    · exact ⟨k + 1, h, fun m hm => Nat.not_lt.mp fun hlt => h' (ball_mono hm (by omega))⟩
/-! counting -/
theorem countP_lt {p q : Nat → Bool} : ∀ {l : List Nat}, (∀ x ∈ l, q x = true → p x = true) → (∃ x ∈ l, p x = true ∧ q x = false) → l.countP q < l.countP p
  | [], _, ⟨x, hx, _⟩ => by cases hx
  | a :: l, h, ⟨x, hx, hp, hq⟩ => by
    have hl : l.countP q ≤ l.countP p := List.countP_mono_left fun y hy => h y (List.mem_cons_of_mem _ hy)
    rw [List.countP_cons, List.countP_cons]
    rcases List.mem_cons.mp hx with rfl | hx
    · rw [hp, hq]; simp; omega
    · have := countP_lt (l := l) (fun y hy => h y (List.mem_cons_of_mem _ hy)) ⟨x, hx, hp, hq⟩
      have ha := h a List.mem_cons_self
      cases e1 : q a <;> cases e2 : p a <;> simp <;> first | omega | (rw [e1, e2] at ha; simp at ha)
/-- who is reached is reached within n steps -/
theorem ball_n {n : Nat} (hs : ∀ v, src v → v < n) (ha : ∀ u v, A u v → v < n) {k v : Nat} (h : ball A src k v) : ball A src n v := by
  let c : Nat → Nat := fun k => (List.range n).countP fun v => decide (ball A src k v)
  have stab : ∀ k, (∀ v, ball A src (k + 1) v → ball A src k v) → ∀ m v, ball A src (k + m) v → ball A src k v := by
    intro k hk m
    induction m with
    | zero => exact fun v h => h
    | succ m ih =>
      intro v h
      rcases h with h | ⟨u, h, a⟩
      · exact ih v h
      · exact hk v (ball_step (ih u h) a)
  by_cases hx : ∃ j, j ≤ n ∧ ∀ v, ball A src (j + 1) v → ball A src j v
  · obtain ⟨j, hj, st⟩ := hx
    refine ball_mono ?_ hj
    rcases Nat.le_total k j with q | q
    · exact ball_mono h q
    · exact stab j st (k - j) v (by rw [show j + (k - j) = k by omega]; exact h)
  · exfalso
    have inc : ∀ j, j ≤ n → c j < c (j + 1) := fun j hj => by
      have : ∃ v, ball A src (j + 1) v ∧ ¬ ball A src j v := by
        apply Classical.byContradiction
        intro hn
        exact hx ⟨j, hj, fun v hv => Classical.byContradiction fun hb => hn ⟨v, hv, hb⟩⟩
      obtain ⟨v, hv, hb⟩ := this
      exact countP_lt (fun x _ hx => decide_eq_true (Or.inl (of_decide_eq_true hx))) ⟨v, List.mem_range.mpr (ball_lt hs ha hv), decide_eq_true hv, decide_eq_false hb⟩
    have low : ∀ j, j ≤ n + 1 → j ≤ c j := by
      intro j
      induction j with
      | zero => exact fun _ => Nat.zero_le _
      | succ j ih =>
        intro hj
        have := ih (by omega)
        have := inc j (by omega)
        omega
    have h1 := low (n + 1) (Nat.le_refl _)
    have h2 : c (n + 1) ≤ n := by
      have := List.countP_le_length (p := fun v => decide (ball A src (n + 1) v)) (l := List.range n)
      rwa [List.length_range] at this
    omega
theorem dist_le {n : Nat} (hs : ∀ v, src v → v < n) (ha : ∀ u v, A u v → v < n) {v d : Nat} (h : IsDist A src v d) : d ≤ n := h.2 _ (ball_n hs ha h.1)

/-! ### by a queue -/
abbrev look (fs : List (Nat × Nat)) (v : Nat) : Option Nat := fs.lookup v
theorem look_app {fs : List (Nat × Nat)} {o k v : Nat} (h : look fs o = none) : look (fs ++ [(o, k)]) v = if v = o then some k else look fs v := by
  induction fs with
  | nil =>
    by_cases hv : v = o
    · subst hv; simp [look, List.lookup]
    · have : (v == o) = false := by simpa using hv
      simp [look, List.lookup, hv, this]
  | cons p r ih =>
    obtain ⟨a, b⟩ := p
    unfold look at h ih ⊢
    rw [List.lookup_cons] at h
    rw [List.cons_append, List.lookup_cons, List.lookup_cons]
    cases ho : (o == a) with
    | true => rw [ho] at h; cases h
    | false =>
      rw [ho] at h
      cases hv : (v == a) with
      | true =>
        have : v ≠ o := fun e => by rw [e, ho] at hv; cases hv
        rw [if_neg this]
      | false => exact ih h
/-- one neighbour found, or not -/
def push (k : Nat) (s : List (Nat × Nat) × List Nat) (o : Nat) : List (Nat × Nat) × List Nat := if (look s.1 o).isSome = true then s else (s.1 ++ [(o, k + 1)], s.2 ++ [o])
/-- the queue's state: h the one that is gone through (or none), values k, then k + 1 -/
structure Mid (A : Nat → Nat → Prop) (src : Nat → Prop) (n : Nat) (h : Nat → Prop) (k : Nat) (q1 : List Nat) (fs : List (Nat × Nat)) (q2 : List Nat) : Prop where
  path : ∀ v d, look fs v = some d → ball A src d v
  src : ∀ v, src v → look fs v = some 0
  v1 : ∀ u ∈ q1, look fs u = some k
  v2 : ∀ u ∈ q2, look fs u = some (k + 1)
  closed : ∀ u d, look fs u = some d → u ∉ q1 → u ∉ q2 → ¬ h u → ∀ v, A u v → ∃ e, look fs v = some e ∧ e ≤ d + 1
  most : ∀ v d, look fs v = some d → d ≤ k + 1
/-- who is not found yet -/
def left (n : Nat) (fs : List (Nat × Nat)) : Nat := (List.range n).countP fun v => (look fs v).isNone
theorem Mid.push {n k h : Nat} {q1 : List Nat} {fs : List (Nat × Nat)} {q2 : List Nat} (m : Mid A src n (· = h) k q1 fs q2) (hk : look fs h = some k) {o : Nat} (a : A h o) (ho : o < n) :
    Mid A src n (· = h) k q1 (PG.push k (fs, q2) o).1 (PG.push k (fs, q2) o).2 ∧ look (PG.push k (fs, q2) o).1 h = some k ∧ (∃ e, look (PG.push k (fs, q2) o).1 o = some e ∧ e ≤ k + 1) ∧ (∀ v d, look fs v = some d → look (PG.push k (fs, q2) o).1 v = some d) ∧
      left n (PG.push k (fs, q2) o).1 + (PG.push k (fs, q2) o).2.length ≤ left n fs + q2.length := by
  unfold PG.push
  by_cases hs : (look fs o).isSome = true
  · simp only [hs, if_true]
    obtain ⟨e, he⟩ := Option.isSome_iff_exists.mp hs
    exact ⟨m, hk, ⟨e, he, m.most _ _ he⟩, fun _ _ e => e, Nat.le_refl _⟩
  · have hs : (look fs o).isSome = false := Bool.eq_false_iff.mpr hs
    simp only [hs, if_false, Bool.false_eq_true]
    have hn : look fs o = none := by
      cases e : look fs o with
      | none => rfl
      | some d => rw [e] at hs; cases hs
    have ne : ∀ {v d}, look fs v = some d → v ≠ o := fun e z => by rw [z, hn] at e; cases e
    have keep : ∀ v d, look fs v = some d → look (fs ++ [(o, k + 1)]) v = some d := fun v d e => by rw [look_app hn, if_neg (ne e)]; exact e
    have new : look (fs ++ [(o, k + 1)]) o = some (k + 1) := by rw [look_app hn, if_pos rfl]
    have back : ∀ v d, look (fs ++ [(o, k + 1)]) v = some d → (v = o ∧ d = k + 1) ∨ look fs v = some d := fun v d e => by
      rw [look_app hn] at e
      split at e
      · rename_i hv; cases e; exact .inl ⟨hv, rfl⟩
      · exact .inr e
    refine ⟨⟨fun v d e => ?_, fun v s => keep _ _ (m.src v s), fun u hu => keep _ _ (m.v1 u hu), fun u hu => ?_, fun u d e n1 n2 nh v av => ?_, fun v d e => ?_⟩, keep _ _ hk, ⟨_, new, Nat.le_refl _⟩, keep, ?_⟩
    · rcases back v d e with ⟨rfl, rfl⟩ | e
      · exact ball_step (m.path _ _ hk) a
      · exact m.path _ _ e
    · rcases List.mem_append.mp hu with hu | hu
      · exact keep _ _ (m.v2 u hu)
      · rw [show u = o by simpa using hu]; exact new
    · rcases back u d e with ⟨rfl, rfl⟩ | e
      · exact absurd (List.mem_append.mpr (.inr (by simp))) n2
      · obtain ⟨x, ex, hx⟩ := m.closed u d e n1 (fun z => n2 (List.mem_append.mpr (.inl z))) nh v av
        exact ⟨x, keep _ _ ex, hx⟩
    · rcases back v d e with ⟨_, rfl⟩ | e
      · exact Nat.le_refl _
      · exact m.most _ _ e
    · have : left n (fs ++ [(o, k + 1)]) < left n fs := by
        refine countP_lt (fun x _ hx => ?_) ⟨o, List.mem_range.mpr ho, by rw [hn]; rfl, by rw [new]; rfl⟩
        cases e : look fs x with
        | none => rfl
        | some d => rw [keep _ _ e] at hx; cases hx
      rw [List.length_append, List.length_singleton]
      omega
theorem Mid.all {n k h : Nat} {q1 : List Nat} : ∀ {ns : List Nat} {fs : List (Nat × Nat)} {q2 : List Nat}, Mid A src n (· = h) k q1 fs q2 → look fs h = some k → (∀ o ∈ ns, A h o ∧ o < n) →
    Mid A src n (· = h) k q1 (ns.foldl (PG.push k) (fs, q2)).1 (ns.foldl (PG.push k) (fs, q2)).2 ∧ look (ns.foldl (PG.push k) (fs, q2)).1 h = some k ∧ (∀ o ∈ ns, ∃ e, look (ns.foldl (PG.push k) (fs, q2)).1 o = some e ∧ e ≤ k + 1) ∧ (∀ v d, look fs v = some d → look (ns.foldl (PG.push k) (fs, q2)).1 v = some d) ∧
      left n (ns.foldl (PG.push k) (fs, q2)).1 + (ns.foldl (PG.push k) (fs, q2)).2.length ≤ left n fs + q2.length
  | [], fs, q2, m, hk, _ => ⟨m, hk, fun _ h => (nomatch h), fun _ _ e => e, Nat.le_refl _⟩
  | o :: ns, fs, q2, m, hk, ha => by
    obtain ⟨a, ho⟩ := ha o List.mem_cons_self
    obtain ⟨m1, k1, ⟨e, he, hle⟩, kp, l1⟩ := m.push hk a ho
    obtain ⟨m2, k2, h2, kp2, l2⟩ := Mid.all (ns := ns) m1 k1 fun o ho => ha o (List.mem_cons_of_mem _ ho)
    rw [List.foldl_cons]
    refine ⟨m2, k2, fun x hx => ?_, fun v d e => kp2 _ _ (kp _ _ e), Nat.le_trans l2 l1⟩
    rcases List.mem_cons.mp hx with rfl | hx
    · exact ⟨e, kp2 _ _ he, hle⟩
    · exact h2 x hx
/-- between two turns -/
def Inv (A : Nat → Nat → Prop) (src : Nat → Prop) (n : Nat) (fs : List (Nat × Nat)) (q : List Nat) : Prop := ∃ k q1 q2, q = q1 ++ q2 ∧ Mid A src n (fun _ => False) k q1 fs q2
theorem Inv.turn {n h : Nat} {q : List Nat} {fs : List (Nat × Nat)} {ns : List Nat} (i : Inv A src n fs (h :: q)) (hn : ∀ o, o ∈ ns ↔ A h o) (hlt : ∀ u v, A u v → v < n) : ∃ k, look fs h = some k ∧
    Inv A src n (ns.foldl (PG.push k) (fs, q)).1 (ns.foldl (PG.push k) (fs, q)).2 ∧ left n (ns.foldl (PG.push k) (fs, q)).1 + (ns.foldl (PG.push k) (fs, q)).2.length < left n fs + (h :: q).length := by
  obtain ⟨k, q1, q2, e, m⟩ := i
  -- the head stands among the first values
  have norm : ∃ k r1 r2, h :: q = h :: (r1 ++ r2) ∧ Mid A src n (fun _ => False) k (h :: r1) fs r2 := by
    cases q1 with
    | cons x r1 => cases e; exact ⟨k, r1, q2, rfl, m⟩
    | nil =>
      have e : h :: q = q2 := e
      subst e
      exact ⟨k + 1, q, [], by simp, m.path, m.src, fun u hu => m.v2 u hu, fun u hu => (nomatch hu), fun u d ed n1 _ nh v a => m.closed u d ed (fun z => (nomatch z)) n1 nh v a, fun v d ed => Nat.le_succ_of_le (m.most v d ed)⟩
  obtain ⟨k, r1, r2, e, m⟩ := norm
  have e : q = r1 ++ r2 := List.tail_eq_of_cons_eq e
  subst e
  have hk := m.v1 h List.mem_cons_self
  have m1 : Mid A src n (· = h) k r1 fs r2 := ⟨m.path, m.src, fun u hu => m.v1 u (List.mem_cons_of_mem _ hu), m.v2, fun u d ed n1 n2 nh v a => m.closed u d ed (fun z => by
    rcases List.mem_cons.mp z with z | z
    · exact nh z
    · exact n1 z) n2 (fun z => z) v a, m.most⟩
  obtain ⟨m2, k2, h2, _, l2⟩ := m1.all hk (ns := ns) fun o ho => ⟨(hn o).mp ho, hlt _ _ ((hn o).mp ho)⟩
  have pre : ∀ (ns : List Nat) (fs : List (Nat × Nat)) (a b : List Nat), ns.foldl (PG.push k) (fs, a ++ b) = ((ns.foldl (PG.push k) (fs, b)).1, a ++ (ns.foldl (PG.push k) (fs, b)).2) := by
    intro ns
    induction ns with
    | nil => intro fs a b; rfl
    | cons o ns ih =>
      intro fs a b
      rw [List.foldl_cons, List.foldl_cons]
      have : PG.push k (fs, a ++ b) o = ((PG.push k (fs, b) o).1, a ++ (PG.push k (fs, b) o).2) := by
        unfold PG.push
        by_cases hs : (look fs o).isSome = true
        · simp only [hs, if_true]
        · simp only [hs, if_false, List.append_assoc]; rfl
      rw [this, ih]
  refine ⟨k, hk, ?_, ?_⟩
  · rw [pre]
    refine ⟨k, r1, _, rfl, m2.path, m2.src, m2.v1, m2.v2, fun u d ed n1 n2 _ v a => ?_, m2.most⟩
    by_cases hu : u = h
    · subst hu
      rw [k2] at ed; cases ed
      exact h2 v ((hn v).mpr a)
    · exact m2.closed u d ed n1 n2 hu v a
  · rw [pre]
    simp only [List.length_append, List.length_cons]
    omega
/-- nobody waits: the fewest steps are found -/
theorem Inv.done {n : Nat} {fs : List (Nat × Nat)} (i : Inv A src n fs []) (v d : Nat) : look fs v = some d ↔ IsDist A src v d := by
  obtain ⟨k, q1, q2, e, m⟩ := i
  have e1 : q1 = [] := (List.append_eq_nil_iff.mp e.symm).1
  have e2 : q2 = [] := (List.append_eq_nil_iff.mp e.symm).2
  subst e1 e2
  have found : ∀ k v, ball A src k v → ∃ e, look fs v = some e ∧ e ≤ k := by
    intro k
    induction k with
    | zero => exact fun v s => ⟨0, m.src v s, Nat.le_refl _⟩
    | succ k ih =>
      intro v h
      rcases h with h | ⟨u, h, a⟩
      · obtain ⟨e, he, hle⟩ := ih v h
        exact ⟨e, he, by omega⟩
      · obtain ⟨e, he, hle⟩ := ih u h
        obtain ⟨x, hx, hxle⟩ := m.closed u e he (fun z => (nomatch z)) (fun z => (nomatch z)) (fun z => z) v a
        exact ⟨x, hx, by omega⟩
  constructor
  · intro hv
    refine ⟨m.path v d hv, fun k hk => ?_⟩
    obtain ⟨e, he, hle⟩ := found k v hk
    rw [hv] at he; cases he
    exact hle
  · intro hd
    obtain ⟨e, he, hle⟩ := found d v hd.1
    have := hd.2 e (m.path v e he)
    rw [he, show e = d by omega]
theorem Inv.noway {n : Nat} {fs : List (Nat × Nat)} (i : Inv A src n fs []) {v : Nat} (h : look fs v = none) (k : Nat) : ¬ ball A src k v := fun hb => by
  obtain ⟨d, hd⟩ := exists_dist hb
  rw [(i.done v d).mpr hd] at h
  cases h
/-- at the start -/
theorem Inv.start {n : Nat} {l : List Nat} (hs : ∀ v, v ∈ l ↔ src v) {fs : List (Nat × Nat)} (hf : ∀ v, look fs v = if v ∈ l then some 0 else none) : Inv A src n fs l := by
  have z : ∀ v d, look fs v = some d → v ∈ l ∧ d = 0 := fun v d e => by
    rw [hf] at e
    split at e
    · cases e; exact ⟨by assumption, rfl⟩
    · cases e
  refine ⟨0, l, [], by simp, fun v d e => ?_, fun v s => ?_, fun u hu => ?_, fun u hu => (nomatch hu), fun u d e n1 => absurd (z u d e).1 n1, fun v d e => ?_⟩
  · obtain ⟨h, rfl⟩ := z v d e
    exact (hs v).mp h
  · rw [hf, if_pos ((hs v).mpr s)]
  · rw [hf, if_pos hu]
  · rw [(z v d e).2]; exact Nat.zero_le _

/-! ### by putting right again and again -/
def relax (p : Nat × Nat) (xs : List Nat) : List Nat :=
  let ys := xs.set p.1 (min (xs.getD p.1 0) (xs.getD p.2 0 + 1))
  ys.set p.2 (min (ys.getD p.2 0) (ys.getD p.1 0 + 1))
theorem getD_set {xs : List Nat} {i j x : Nat} (hi : i < xs.length) : (xs.set i x).getD j 0 = if j = i then x else xs.getD j 0 := by
  by_cases h : j = i
  · subst h
    rw [if_pos rfl, List.getD_eq_getElem?_getD, List.getElem?_set_self hi]; rfl
  · rw [if_neg h, List.getD_eq_getElem?_getD, List.getElem?_set_ne (fun e => h e.symm), ← List.getD_eq_getElem?_getD]
structure Low (A : Nat → Nat → Prop) (src : Nat → Prop) (n : Nat) (xs : List Nat) : Prop where
  len : xs.length = n
  most : ∀ v, v < n → xs.getD v 0 ≤ 99
  path : ∀ v, v < n → xs.getD v 0 < 99 → ball A src (xs.getD v 0) v
theorem Low.relax {n : Nat} {xs : List Nat} (l : Low A src n xs) {a b : Nat} (ha : a < n) (hb : b < n) (h : A a b) (h' : A b a) : Low A src n (relax (a, b) xs) ∧ (∀ v, (PG.relax (a, b) xs).getD v 0 ≤ xs.getD v 0) ∧
    (PG.relax (a, b) xs).getD a 0 ≤ xs.getD b 0 + 1 ∧ (PG.relax (a, b) xs).getD b 0 ≤ xs.getD a 0 + 1 := by
  unfold PG.relax
  simp only
  have la : a < xs.length := by rw [l.len]; exact ha
  have lb : b < (xs.set a (min (xs.getD a 0) (xs.getD b 0 + 1))).length := by rw [List.length_set, l.len]; exact hb
  have e1 : ∀ v, (xs.set a (min (xs.getD a 0) (xs.getD b 0 + 1))).getD v 0 = if v = a then min (xs.getD a 0) (xs.getD b 0 + 1) else xs.getD v 0 := fun v => getD_set la
  have e2 : ∀ v, ((xs.set a (min (xs.getD a 0) (xs.getD b 0 + 1))).set b (min ((xs.set a (min (xs.getD a 0) (xs.getD b 0 + 1))).getD b 0) ((xs.set a (min (xs.getD a 0) (xs.getD b 0 + 1))).getD a 0 + 1))).getD v 0 =
      if v = b then min (if b = a then min (xs.getD a 0) (xs.getD b 0 + 1) else xs.getD b 0) (min (xs.getD a 0) (xs.getD b 0 + 1) + 1) else if v = a then min (xs.getD a 0) (xs.getD b 0 + 1) else xs.getD v 0 := fun v => by
    rw [getD_set lb, e1, e1, e1, if_pos rfl]
  have pa : min (xs.getD a 0) (xs.getD b 0 + 1) < 99 → ball A src (min (xs.getD a 0) (xs.getD b 0 + 1)) a := fun hlt => by
    rcases Nat.le_total (xs.getD a 0) (xs.getD b 0 + 1) with q | q
    · rw [Nat.min_eq_left q] at hlt ⊢; exact l.path a ha hlt
    · rw [Nat.min_eq_right q] at hlt ⊢; exact ball_step (l.path b hb (by omega)) h'
  have m1 := l.most a ha
  have m2 := l.most b hb
  refine ⟨⟨by rw [List.length_set, List.length_set, l.len], fun v hv => ?_, fun v hv hlt => ?_⟩, fun v => ?_, ?_, ?_⟩
  · rw [e2]
    have := l.most v hv
    split
    · split <;> omega
    · split <;> omega
  · rw [e2] at hlt ⊢
    split at hlt
    · rename_i hvb
      subst hvb
      rw [if_pos rfl]
      by_cases hba : v = a
      · subst hba
        rw [if_pos rfl] at hlt ⊢
        rw [Nat.min_eq_left (by omega)] at hlt ⊢
        exact pa hlt
      · rw [if_neg hba] at hlt ⊢
        rcases Nat.le_total (xs.getD v 0) (min (xs.getD a 0) (xs.getD v 0 + 1) + 1) with q | q
        · rw [Nat.min_eq_left q] at hlt ⊢; exact l.path v hv hlt
        · rw [Nat.min_eq_right q] at hlt ⊢; exact ball_step (pa (by omega)) h
    · rename_i hvb
      rw [if_neg hvb]
      split at hlt
      · rename_i hva
        subst hva
        rw [if_pos rfl]
        exact pa hlt
      · rename_i hva
        rw [if_neg hva]
        exact l.path v hv hlt
  · rw [e2]
    split
    · rename_i hvb
      subst hvb
      split
      · rename_i hba; subst hba; omega
      · omega
    · split
      · rename_i hva; subst hva; omega
      · exact Nat.le_refl _
  · rw [e2]
    split
    · rename_i hab; subst hab; split <;> omega
    · rw [if_pos rfl]; omega
  · rw [e2, if_pos rfl]
    split <;> omega
def Up (A : Nat → Nat → Prop) (src : Nat → Prop) (n t : Nat) (xs : List Nat) : Prop := ∀ v k, v < n → k ≤ t → ball A src k v → xs.getD v 0 ≤ k
theorem round {n t : Nat} : ∀ {ts : List (Nat × Nat)} {xs : List Nat}, (∀ p ∈ ts, p.1 < n ∧ p.2 < n ∧ A p.1 p.2 ∧ A p.2 p.1) → Low A src n xs → Up A src n t xs →
    Low A src n (ts.foldl (fun xs p => relax p xs) xs) ∧ (∀ v, (ts.foldl (fun xs p => relax p xs) xs).getD v 0 ≤ xs.getD v 0) ∧
      ∀ p ∈ ts, (ball A src t p.1 → (ts.foldl (fun xs p => relax p xs) xs).getD p.2 0 ≤ t + 1) ∧ (ball A src t p.2 → (ts.foldl (fun xs p => relax p xs) xs).getD p.1 0 ≤ t + 1)
  | [], xs, _, l, u => ⟨l, fun _ => Nat.le_refl _, fun _ h => (nomatch h)⟩
  | (a, b) :: ts, xs, hp, l, u => by
    obtain ⟨ha, hb, h1, h2⟩ := hp (a, b) List.mem_cons_self
    obtain ⟨l1, d1, r1, r2⟩ := l.relax ha hb h1 h2
    have u1 : Up A src n t (relax (a, b) xs) := fun v k hv hk hb => Nat.le_trans (d1 v) (u v k hv hk hb)
    obtain ⟨l2, d2, r3⟩ := round (ts := ts) (fun p hq => hp p (List.mem_cons_of_mem _ hq)) l1 u1
    rw [List.foldl_cons]
    refine ⟨l2, fun v => Nat.le_trans (d2 v) (d1 v), fun p hq => ?_⟩
    rcases List.mem_cons.mp hq with rfl | hq
    · refine ⟨fun h => ?_, fun h => ?_⟩
      · have := u a t ha (Nat.le_refl _) h
        have := d2 b
        simp only at *
        omega
      · have := u b t hb (Nat.le_refl _) h
        have := d2 a
        simp only at *
        omega
    · exact r3 p hq
theorem Up.next {n t : Nat} {ts : List (Nat × Nat)} {xs : List Nat} (hp : ∀ p ∈ ts, p.1 < n ∧ p.2 < n ∧ A p.1 p.2 ∧ A p.2 p.1) (hA : ∀ u v, A u v → (u, v) ∈ ts ∨ (v, u) ∈ ts) (l : Low A src n xs) (u : Up A src n t xs) :
    Low A src n (ts.foldl (fun xs p => relax p xs) xs) ∧ Up A src n (t + 1) (ts.foldl (fun xs p => relax p xs) xs) := by
  obtain ⟨l2, d2, r⟩ := round hp l u
  refine ⟨l2, fun v k hv hk hb => ?_⟩
  rcases Nat.lt_or_ge k (t + 1) with q | q
  · exact Nat.le_trans (d2 v) (u v k hv (by omega) hb)
  · have e : k = t + 1 := by omega
    subst e
    rcases hb with hb | ⟨w, hw, a⟩
    · have := u v t hv (Nat.le_refl _) hb
      have := d2 v
      omega
    · rcases hA w v a with m | m
      · exact (r _ m).1 hw
      · exact (r _ m).2 hw
/-- after n rounds -/
theorem low_up_dist {n : Nat} {xs : List Nat} (hn : n < 99) (hs : ∀ v, src v → v < n) (ha : ∀ u v, A u v → v < n) (l : Low A src n xs) (u : Up A src n n xs) {v : Nat} (hv : v < n) :
    (∀ d, IsDist A src v d → xs.getD v 0 = d) ∧ ((∀ k, ¬ ball A src k v) → xs.getD v 0 = 99) := by
  refine ⟨fun d hd => ?_, fun hno => ?_⟩
  · have h1 := u v d hv (dist_le hs ha hd) hd.1
    have h2 := dist_le hs ha hd
    have h3 := hd.2 _ (l.path v hv (by omega))
    omega
  · have h1 := l.most v hv
    rcases Nat.lt_or_ge (xs.getD v 0) 99 with q | q
    · exact absurd (l.path v hv q) (hno _)
    · omega
end
end PG
end
section
namespace DL
open PySem PySem.Spec PyProof.Rows L2
/-! ### known words, how long a repr with them is -/
def tmOps : List Str := ["plus", "minus", "times", "over", "rest", "less", "same", "low", "high"]
def tmLvs : List Str := ["word", "ties", "own", "sum", "least", "most"]
def tmWords : List Str := ["plus", "minus", "times", "over", "rest", "less", "same", "low", "high", "word", "ties", "own", "sum", "least", "most", "if", "many"]
theorem tmWords_ok : ∀ x ∈ tmWords, PyData.strOk x = true ∧ (PyData.str x).shown.length ≤ 10 ∧ (PyData.str x).showable = true := by decide +kernel
mutual
def wtW : PyData → Nat
  | .none => 5
  | .bool _ => 5
  | .int _ => 12
  | .str _ => 10
  | .list xs => wtWAll xs + 3
  | .tuple xs => wtWAll xs + 3
  | .dict _ => 0
def wtWAll : List PyData → Nat
  | [] => 0
  | x :: xs => wtW x + 2 + wtWAll xs
end
mutual
def smallW : PyData → Bool
  | .none => true
  | .bool _ => true
  | .int i => decide (0 ≤ i) && decide (i < 10 ^ 10)
  | .str x => decide (x ∈ tmWords)
  | .list xs => smallWAll xs
  | .tuple xs => smallWAll xs
  | .dict _ => false
def smallWAll : List PyData → Bool
  | [] => true
  | x :: xs => smallW x && smallWAll xs
end
mutual
theorem smallW_shown : ∀ d : PyData, smallW d = true → d.shown.length ≤ wtW d ∧ d.showable = true ∧ d.hasDict = false
  | .none, _ => ⟨by show (("None" : Str)).length ≤ 5; decide, rfl, rfl⟩
  | .bool true, _ => ⟨by show (("True" : Str)).length ≤ 5; decide, rfl, rfl⟩
  | .bool false, _ => ⟨by show (("False" : Str)).length ≤ 5; decide, rfl, rfl⟩
  | .int i, h => by
    have := small_shown (.int i) (by unfold smallW at h; unfold small; exact h)
    exact this
  | .str x, h => by
    have := tmWords_ok x (by unfold smallW at h; exact of_decide_eq_true h)
    exact ⟨this.2.1, this.2.2, by simp [PyData.hasDict]⟩
  | .dict _, h => by simp [smallW] at h
  | .list xs, h => by
    obtain ⟨h1, h2, h3, h4⟩ := smallW_all xs (by simpa [smallW] using h)
    refine ⟨?_, by simpa [PyData.showable] using h2, by simpa [PyData.hasDict] using h3⟩
    have := listText_len_le (PyData.shownAll xs)
    show (listText (PyData.shownAll xs)).length ≤ wtWAll xs + 3
    omega
  | .tuple xs, h => by
    obtain ⟨h1, h2, h3, h4⟩ := smallW_all xs (by simpa [smallW] using h)
    refine ⟨?_, by simpa [PyData.showable] using h2, by simpa [PyData.hasDict] using h3⟩
    have := tupleText_len_le (PyData.shownAll xs)
    show (tupleText (PyData.shownAll xs)).length ≤ wtWAll xs + 3
    omega
theorem smallW_all : ∀ xs : List PyData, smallWAll xs = true → ((PyData.shownAll xs).map (·.length)).sum + 2 * (PyData.shownAll xs).length ≤ wtWAll xs ∧ PyData.showableAll xs = true ∧ PyData.hasDictAll xs = false ∧ True
  | [], _ => ⟨Nat.le_refl _, rfl, rfl, trivial⟩
  | x :: xs, h => by
    unfold smallWAll at h
    rw [Bool.and_eq_true] at h
    obtain ⟨a1, a2, a3⟩ := smallW_shown x h.1
    obtain ⟨b1, b2, b3, _⟩ := smallW_all xs h.2
    refine ⟨?_, by rw [PyData.showableAll, a2, b2]; rfl, by rw [PyData.hasDictAll, a3, b3]; rfl, trivial⟩
    rw [PyData.shownAll, List.map_cons, List.sum_cons, List.length_cons, wtWAll]
    omega
end
theorem reprOk_smallW {d : PyData} (h : smallW d = true) (hd : d.depth ≤ 60) (hw : wtW d ≤ 1000000) : reprOk d = true := by
  obtain ⟨h1, h2, h3⟩ := smallW_shown d h
  unfold reprOk
  rw [h2, h3, decide_eq_true hd, decide_eq_true (show d.shown.length ≤ sizeLine by rw [sizeLine_eq]; omega)]
  rfl
theorem lvs_words : ∀ x ∈ tmLvs, x ∈ tmWords := by decide
theorem ops_words : ∀ x ∈ tmOps, x ∈ tmWords := by decide
theorem lvs_not : ∀ x ∈ tmLvs, x ≠ ("many" : Str) ∧ x ≠ ("if" : Str) ∧ x ∉ tmOps := by decide
theorem ops_not : ∀ x ∈ tmOps, x ≠ ("many" : Str) ∧ x ≠ ("if" : Str) ∧ x ∉ tmLvs ∧ x ∉ (["sum", "least", "most"] : List Str) := by decide
theorem mkLst0 (σ : Sl) (S : Sto) : mkLst [] σ S = .ok (.lst []) S := by
  unfold mkLst
  simp only [pdL_nil]
  rw [if_pos (show ([] : List PyData).length ≤ sizeLine from Nat.zero_le _)]
/-! ### terms -/
inductive Trm where
  | num (i : Nat)
  | leaf (x : Str)
  | many (k : Nat)
  | op (x : Str) (a b : Trm)
  | cond (c a b : Trm)
namespace Trm
def enc : Trm → PyData
  | num i => .int i
  | leaf x => .tuple [.str x]
  | many k => .tuple [.str "many", .int k]
  | op x a b => .tuple [.str x, enc a, enc b]
  | cond c a b => .tuple [.str "if", enc c, enc a, enc b]
def Wf : Trm → Prop
  | num i => i < 997
  | leaf x => x ∈ tmLvs
  | many k => k < 997
  | op x a b => x ∈ tmOps ∧ Wf a ∧ Wf b
  | cond c a b => Wf c ∧ Wf a ∧ Wf b
def dep : Trm → Nat
  | num _ => 0
  | leaf _ => 0
  | many _ => 0
  | op _ a b => 1 + max (dep a) (dep b)
  | cond c a b => 1 + max (dep c) (max (dep a) (dep b))
def sz : Trm → Nat
  | num _ => 1
  | leaf _ => 1
  | many _ => 1
  | op _ a b => 1 + (sz a + sz b)
  | cond c a b => 1 + (sz c + (sz a + sz b))
/-- whether all leaves are among some -/
def inL (ls : List Str) : Trm → Bool
  | num _ => true
  | leaf x => decide (x ∈ ls)
  | many _ => decide (("sum" : Str) ∈ ls)
  | op _ a b => inL ls a && inL ls b
  | cond c a b => inL ls c && (inL ls a && inL ls b)
def looks : Trm → Bool
  | num _ => false
  | leaf x => decide (x ∈ (["sum", "least", "most"] : List Str))
  | many _ => true
  | op _ a b => looks a || looks b
  | cond c a b => looks c || (looks a || looks b)
theorem small_enc : ∀ t : Trm, t.Wf → smallW t.enc = true
  | num i, h => by
    have h : i < 997 := h
    simp only [enc, smallW, Bool.and_eq_true, decide_eq_true_eq]
    omega
  | leaf x, h => by
    have : x ∈ tmWords := lvs_words x h
    simp [enc, smallW, smallWAll, this]
  | many k, h => by
    have h : k < 997 := h
    simp only [enc, smallW, smallWAll, Bool.and_eq_true, decide_eq_true_eq, Bool.and_true]
    exact ⟨by decide, by omega, by omega⟩
  | op x a b, h => by
    obtain ⟨hx, ha, hb⟩ := h
    have : x ∈ tmWords := ops_words x hx
    simp [enc, smallW, smallWAll, this, small_enc a ha, small_enc b hb]
  | cond c a b, h => by
    obtain ⟨hc, ha, hb⟩ := h
    have : ("if" : Str) ∈ tmWords := by decide
    simp [enc, smallW, smallWAll, this, small_enc a ha, small_enc b hb, small_enc c hc]
theorem wt_enc : ∀ t : Trm, wtW t.enc + 8 ≤ 50 * t.sz
  | num i => by simp [enc, wtW, sz]
  | leaf x => by simp [enc, wtW, wtWAll, sz]
  | many k => by simp [enc, wtW, wtWAll, sz]
  | op x a b => by
    have h1 := wt_enc a
    have h2 := wt_enc b
    simp only [enc, wtW, wtWAll, sz]
    omega
  | cond c a b => by
    have h0 := wt_enc c
    have h1 := wt_enc a
    have h2 := wt_enc b
    simp only [enc, wtW, wtWAll, sz]
    omega
theorem depth_enc : ∀ t : Trm, t.enc.depth ≤ t.dep + 1
  | num i => by simp [enc, PyData.depth]
  | leaf x => by simp [enc, PyData.depth, PyData.depthAll, dep]
  | many k => by simp [enc, PyData.depth, PyData.depthAll, dep]
  | op x a b => by
    have h1 := depth_enc a
    have h2 := depth_enc b
    simp only [enc, PyData.depth, PyData.depthAll, dep]
    omega
  | cond c a b => by
    have h0 := depth_enc c
    have h1 := depth_enc a
    have h2 := depth_enc b
    simp only [enc, PyData.depth, PyData.depthAll, dep]
    omega
end Trm
/-! ### texts -/
theorem okEq_str {x : Str} (h : x ∈ tmWords) : okEq (.str x) = true := by
  unfold okEq SeqAt.shaped
  simp [PyData.canLay0, PyData.depth, (tmWords_ok x h).1]
theorem okEq_strs {ls : List Str} (h : ∀ x ∈ ls, x ∈ tmWords) : okEq (.tuple (ls.map .str)) = true := by
  have h1 : PyData.canLayAll0 (ls.map PyData.str) = true ∧ PyData.depthAll (ls.map PyData.str) = 0 := by
    induction ls with
    | nil => exact ⟨rfl, rfl⟩
    | cons a r ih =>
      obtain ⟨i1, i2⟩ := ih fun x hx => h x (List.mem_cons_of_mem _ hx)
      simp only [List.map_cons, PyData.canLayAll0, PyData.depthAll, i1, i2, PyData.canLay0, PyData.depth, (tmWords_ok a (h a List.mem_cons_self)).1]
      exact ⟨rfl, rfl⟩
  unfold okEq SeqAt.shaped
  simp [PyData.canLay0, PyData.depth, h1.1, h1.2]
theorem opEq_str (ne : Bool) (x y : Str) (S : Sto) : opEq ne (.str x) (.str y) S = .ok (.bl (decide (x = y) ^^ ne)) S := rfl
theorem any_str (x : Str) : ∀ ls : List Str, ((ls.map PyData.str).any fun z => PyData.eqv z (.str x)) = decide (x ∈ ls)
  | [] => rfl
  | y :: r => by
    rw [List.map_cons, List.any_cons, any_str x r]
    have e : PyData.eqv (.str y) (.str x) = decide (y = x) := by
      show (y == x) = _
      by_cases h : y = x
      · simp [h]
      · simp [h]
    rw [e]
    by_cases h : y = x
    · simp [h]
    · have h' : ¬ x = y := fun z => h z.symm
      simp [h, h', List.mem_cons]
theorem opIn_str {x : Str} {ls : List Str} (hx : x ∈ tmWords) (hl : ∀ z ∈ ls, z ∈ tmWords) (ne : Bool) (S : Sto) : opIn ne (.str x) (.tup (ls.map .str)) S = .ok (.bl (decide (x ∈ ls) ^^ ne)) S := by
  unfold opIn
  simp only [okEq_str hx, okEq_strs hl, Bool.and_self, if_true, any_str]
theorem eTabIn_yes {ne : Bool} {ks : List (Str × Str)} {no : List Str} {m : DM D} {z : Str} {σ : Sl} {S S' : Sto} (h : m σ S = .ok (.str z) S') (hz : z ∈ ks.map (·.1)) : eTabIn ne ks no m σ S = .ok (.bl (!ne)) S' := by
  unfold eTabIn
  rw [mBind_app, h, Out.bind_ok]
  unfold tabIn
  dsimp only
  rw [if_pos hz]
theorem eTabIn_no {ne : Bool} {ks : List (Str × Str)} {no : List Str} {m : DM D} {z : Str} {σ : Sl} {S S' : Sto} (h : m σ S = .ok (.str z) S') (hz : z ∉ ks.map (·.1)) (hn : z ∈ no) : eTabIn ne ks no m σ S = .ok (.bl ne) S' := by
  unfold eTabIn
  rw [mBind_app, h, Out.bind_ok]
  unfold tabIn
  dsimp only
  rw [if_neg hz, if_pos hn]
theorem star1_ok {i j : Nat} {m : DM D} {x : PyData} {r : List PyData} {σ : Sl} {S S' : Sto} (h : m σ S = .ok (.tup (x :: r)) S') : sStarF 1 (tgCons (tgName i) (tgCons (tgName j) tgNil)) m σ S = .ok (.next ((σ.set i (some (.pd x))).set j (some (.lst r)))) S' := by
  unfold sStarF
  rw [h, Out.bind_ok]
  have e1 : asQ S' (.tup (x :: r)) = some (D.pd x :: r.map .pd) := by simp [asQ]
  simp only [e1, List.drop_succ_cons, List.drop_zero, pdL_map]
  rw [if_pos (by simp)]
  rfl
end DL
namespace DL
open PySem PySem.Spec PyProof.Rows L2
theorem sSeq_ret {a b : DM Fl} {σ : Sl} {d : D} {S S' : Sto} (h : a σ S = .ok (.ret d) S') : sSeq a b σ S = .ok (.ret d) S' := by rw [sSeq_app, h]; rfl
theorem sIf_t {c : DM Bool} {a b : DM Fl} {σ : Sl} {S S' : Sto} (h : c σ S = .ok true S') : sIf c a b σ S = a σ S' := by rw [sIf_app, h]; rfl
theorem sIf_f {c : DM Bool} {a b : DM Fl} {σ : Sl} {S S' : Sto} (h : c σ S = .ok false S') : sIf c a b σ S = b σ S' := by rw [sIf_app, h]; rfl
theorem mkTup0 (σ : Sl) (S : Sto) : mkTup [] σ S = .ok (.tup []) S := by
  unfold mkTup
  simp only [pdL_nil]
  rw [if_pos (show ([] : List PyData).length ≤ sizeLine from Nat.zero_le _)]
theorem opEqT_cons (x : PyData) (r : List PyData) (S : Sto) : opEqT false (.tup (x :: r)) (.tup []) S = .ok (.bl false) S := rfl
theorem opEqT_nil (S : Sto) : opEqT false (.tup []) (.tup []) S = .ok (.bl true) S := rfl
def optN : Option Nat → PyData
  | some n => .int n
  | none => .none
theorem okEq_none : okEq .none = true := by unfold okEq SeqAt.shaped; simp [PyData.canLay0, PyData.depth]
theorem okEq_opts (l : List (Option Nat)) : okEq (.list (l.map optN)) = true := by
  have h1 : PyData.canLayAll0 (l.map optN) = true ∧ PyData.depthAll (l.map optN) = 0 := by
    induction l with
    | nil => exact ⟨rfl, rfl⟩
    | cons a r ih =>
      obtain ⟨i1, i2⟩ := ih
      cases a <;> simp only [List.map_cons, PyData.canLayAll0, PyData.depthAll, i1, i2, optN, PyData.canLay0, PyData.depth] <;> exact ⟨rfl, rfl⟩
  unfold okEq SeqAt.shaped
  simp [PyData.canLay0, PyData.depth, h1.1, h1.2]
theorem any_opts : ∀ l : List (Option Nat), ((l.map optN).any fun z => PyData.eqv z .none) = l.any (·.isNone)
  | [] => rfl
  | none :: r => by rw [List.map_cons, List.any_cons, List.any_cons, any_opts r]; rfl
  | some n :: r => by rw [List.map_cons, List.any_cons, List.any_cons, any_opts r]; rfl
theorem opIn_opts (l : List (Option Nat)) (S : Sto) : opIn false .non (.lst (l.map optN)) S = .ok (.bl (l.any (·.isNone))) S := by
  unfold opIn
  simp only [view, okEq_none, okEq_opts, Bool.and_self, if_true, any_opts, Bool.xor_false]
theorem fSum1_ints (l : List Int) (S : Sto) : fSum1 [.lst (l.map .int)] S = .ok (.int l.sum) S := by
  unfold fSum1 intsOf asL
  dsimp only
  rw [pdL_map]
  dsimp only
  rw [intsL_map]
def sumO (l : List (Option Nat)) : Option Nat := if l.any (·.isNone) = true then none else some (1 + (l.map (·.getD 0)).sum)
theorem sum_opts : ∀ l : List (Option Nat), l.any (·.isNone) = false → l.map optN = (l.map fun o => ((o.getD 0 : Nat) : Int)).map .int ∧ (l.map fun o => ((o.getD 0 : Nat) : Int)).sum = ((l.map (·.getD 0)).sum : Nat)
  | [], _ => ⟨rfl, rfl⟩
  | none :: r, h => by simp at h
  | some n :: r, h => by
    obtain ⟨h1, h2⟩ := sum_opts r (by simpa using h)
    refine ⟨by simp only [List.map_cons, h1]; rfl, ?_⟩
    simp only [List.map_cons, List.sum_cons, h2, Option.getD_some]
    omega
/-- None if one is None, else one more than their sum -/
theorem last_ok {i : Nat} {l : List (Option Nat)} {σ : Sl} {S : Sto} (h : eVar i σ S = .ok (.lst (l.map optN)) S) :
    eIf (eTest (eOp (opIn false) (eK .non) (eVar i))) (eK .non) (eOp opAdd (eK (.int 1)) (eCall fSum1 (lCons (eVar i) lNil))) σ S = .ok (.pd (optN (sumO l))) S := by
  rw [eIf_app, eTest_app, eOp_ok (S' := S) (d := .non) rfl h (opIn_opts l S)]
  show (if l.any (·.isNone) = true then _ else _) = _
  unfold sumO
  by_cases hn : l.any (·.isNone) = true
  · rw [if_pos hn, if_pos hn]; rfl
  · rw [if_neg hn, if_neg hn]
    obtain ⟨h1, h2⟩ := sum_opts l (by cases h : l.any (·.isNone) with | true => exact absurd h hn | false => rfl)
    refine eOp_ok (d := .int 1) (S' := S) (e := .int ((l.map fun o => ((o.getD 0 : Nat) : Int)).sum)) (S2 := S) rfl (eCall1_ok h ?_) ?_
    · rw [h1]; exact fSum1_ints _ S
    · rw [h2, opAdd_int]
      show _ = Out.ok (D.pd (.int ((1 + (l.map (·.getD 0)).sum : Nat) : Int))) S
      congr 3
end DL
namespace DL
open PySem PySem.Spec PyProof.Rows L2
theorem mkTupN {ds : List D} {xs : List PyData} (h : ds = xs.map .pd) (hl : xs.length ≤ 1000) (σ : Sl) (S : Sto) : mkTup ds σ S = .ok (.tup xs) S := by
  subst h
  unfold mkTup
  rw [pdL_map]
  dsimp only
  rw [if_pos (by rw [sizeLine_eq]; omega)]
theorem mkLstN {ds : List D} {xs : List PyData} (h : ds = xs.map .pd) (hl : xs.length ≤ 1000) (σ : Sl) (S : Sto) : mkLst ds σ S = .ok (.lst xs) S := by
  subst h
  unfold mkLst
  rw [pdL_map]
  dsimp only
  rw [if_pos (by rw [sizeLine_eq]; omega)]
theorem mkTup1 (x0 : PyData) (σ : Sl) (S : Sto) : mkTup [.pd x0] σ S = .ok (.tup [x0]) S := mkTupN (xs := [x0]) rfl (by simp) σ S
theorem mkLst2 (x0 x1 : PyData) (σ : Sl) (S : Sto) : mkLst [.pd x0, .pd x1] σ S = .ok (.lst [x0, x1]) S := mkLstN (xs := [x0, x1]) rfl (by simp) σ S
theorem mkTup3 (x0 x1 x2 : PyData) (σ : Sl) (S : Sto) : mkTup [.pd x0, .pd x1, .pd x2] σ S = .ok (.tup [x0, x1, x2]) S := mkTupN (xs := [x0, x1, x2]) rfl (by simp) σ S
theorem mkLst3 (x0 x1 x2 : PyData) (σ : Sl) (S : Sto) : mkLst [.pd x0, .pd x1, .pd x2] σ S = .ok (.lst [x0, x1, x2]) S := mkLstN (xs := [x0, x1, x2]) rfl (by simp) σ S
theorem mkTup4 (x0 x1 x2 x3 : PyData) (σ : Sl) (S : Sto) : mkTup [.pd x0, .pd x1, .pd x2, .pd x3] σ S = .ok (.tup [x0, x1, x2, x3]) S := mkTupN (xs := [x0, x1, x2, x3]) rfl (by simp) σ S
theorem mkLst4 (x0 x1 x2 x3 : PyData) (σ : Sl) (S : Sto) : mkLst [.pd x0, .pd x1, .pd x2, .pd x3] σ S = .ok (.lst [x0, x1, x2, x3]) S := mkLstN (xs := [x0, x1, x2, x3]) rfl (by simp) σ S
theorem mkTup5 (x0 x1 x2 x3 x4 : PyData) (σ : Sl) (S : Sto) : mkTup [.pd x0, .pd x1, .pd x2, .pd x3, .pd x4] σ S = .ok (.tup [x0, x1, x2, x3, x4]) S := mkTupN (xs := [x0, x1, x2, x3, x4]) rfl (by simp) σ S
theorem mkLst5 (x0 x1 x2 x3 x4 : PyData) (σ : Sl) (S : Sto) : mkLst [.pd x0, .pd x1, .pd x2, .pd x3, .pd x4] σ S = .ok (.lst [x0, x1, x2, x3, x4]) S := mkLstN (xs := [x0, x1, x2, x3, x4]) rfl (by simp) σ S
theorem mkTup6 (x0 x1 x2 x3 x4 x5 : PyData) (σ : Sl) (S : Sto) : mkTup [.pd x0, .pd x1, .pd x2, .pd x3, .pd x4, .pd x5] σ S = .ok (.tup [x0, x1, x2, x3, x4, x5]) S := mkTupN (xs := [x0, x1, x2, x3, x4, x5]) rfl (by simp) σ S
theorem mkLst6 (x0 x1 x2 x3 x4 x5 : PyData) (σ : Sl) (S : Sto) : mkLst [.pd x0, .pd x1, .pd x2, .pd x3, .pd x4, .pd x5] σ S = .ok (.lst [x0, x1, x2, x3, x4, x5]) S := mkLstN (xs := [x0, x1, x2, x3, x4, x5]) rfl (by simp) σ S
theorem mkTup7 (x0 x1 x2 x3 x4 x5 x6 : PyData) (σ : Sl) (S : Sto) : mkTup [.pd x0, .pd x1, .pd x2, .pd x3, .pd x4, .pd x5, .pd x6] σ S = .ok (.tup [x0, x1, x2, x3, x4, x5, x6]) S := mkTupN (xs := [x0, x1, x2, x3, x4, x5, x6]) rfl (by simp) σ S
theorem mkLst7 (x0 x1 x2 x3 x4 x5 x6 : PyData) (σ : Sl) (S : Sto) : mkLst [.pd x0, .pd x1, .pd x2, .pd x3, .pd x4, .pd x5, .pd x6] σ S = .ok (.lst [x0, x1, x2, x3, x4, x5, x6]) S := mkLstN (xs := [x0, x1, x2, x3, x4, x5, x6]) rfl (by simp) σ S
theorem mkTup8 (x0 x1 x2 x3 x4 x5 x6 x7 : PyData) (σ : Sl) (S : Sto) : mkTup [.pd x0, .pd x1, .pd x2, .pd x3, .pd x4, .pd x5, .pd x6, .pd x7] σ S = .ok (.tup [x0, x1, x2, x3, x4, x5, x6, x7]) S := mkTupN (xs := [x0, x1, x2, x3, x4, x5, x6, x7]) rfl (by simp) σ S
theorem mkLst8 (x0 x1 x2 x3 x4 x5 x6 x7 : PyData) (σ : Sl) (S : Sto) : mkLst [.pd x0, .pd x1, .pd x2, .pd x3, .pd x4, .pd x5, .pd x6, .pd x7] σ S = .ok (.lst [x0, x1, x2, x3, x4, x5, x6, x7]) S := mkLstN (xs := [x0, x1, x2, x3, x4, x5, x6, x7]) rfl (by simp) σ S
theorem mkTup9 (x0 x1 x2 x3 x4 x5 x6 x7 x8 : PyData) (σ : Sl) (S : Sto) : mkTup [.pd x0, .pd x1, .pd x2, .pd x3, .pd x4, .pd x5, .pd x6, .pd x7, .pd x8] σ S = .ok (.tup [x0, x1, x2, x3, x4, x5, x6, x7, x8]) S := mkTupN (xs := [x0, x1, x2, x3, x4, x5, x6, x7, x8]) rfl (by simp) σ S
theorem mkLst9 (x0 x1 x2 x3 x4 x5 x6 x7 x8 : PyData) (σ : Sl) (S : Sto) : mkLst [.pd x0, .pd x1, .pd x2, .pd x3, .pd x4, .pd x5, .pd x6, .pd x7, .pd x8] σ S = .ok (.lst [x0, x1, x2, x3, x4, x5, x6, x7, x8]) S := mkLstN (xs := [x0, x1, x2, x3, x4, x5, x6, x7, x8]) rfl (by simp) σ S
theorem mkTup11 (x0 x1 x2 x3 x4 x5 x6 x7 x8 x9 x10 : PyData) (σ : Sl) (S : Sto) : mkTup [.pd x0, .pd x1, .pd x2, .pd x3, .pd x4, .pd x5, .pd x6, .pd x7, .pd x8, .pd x9, .pd x10] σ S = .ok (.tup [x0, x1, x2, x3, x4, x5, x6, x7, x8, x9, x10]) S := mkTupN (xs := [x0, x1, x2, x3, x4, x5, x6, x7, x8, x9, x10]) rfl (by simp) σ S
theorem mkLst11 (x0 x1 x2 x3 x4 x5 x6 x7 x8 x9 x10 : PyData) (σ : Sl) (S : Sto) : mkLst [.pd x0, .pd x1, .pd x2, .pd x3, .pd x4, .pd x5, .pd x6, .pd x7, .pd x8, .pd x9, .pd x10] σ S = .ok (.lst [x0, x1, x2, x3, x4, x5, x6, x7, x8, x9, x10]) S := mkLstN (xs := [x0, x1, x2, x3, x4, x5, x6, x7, x8, x9, x10]) rfl (by simp) σ S
theorem fAny_lst (bs : List Bool) (S : Sto) : fAny [.lst (bs.map .bool)] S = .ok (.bl (bs.any fun b => b)) S := by
  show (match blsOf S (.lst (bs.map .bool)) with | some bs => Out.ok (D.bl (bs.any fun b => b)) S | none => .stuck) = _
  have : blsOf S (.lst (bs.map .bool)) = some bs := by
    unfold blsOf asL
    dsimp only
    rw [pdL_map]
    exact blsL_map bs
  rw [this]
theorem fAny_map {α : Type} (l : List α) (P : α → Bool) (S : Sto) : fAny [.lst (l.map fun a => .bool (P a))] S = .ok (.bl (l.any P)) S := by
  have := fAny_lst (l.map P) S
  rw [List.map_map] at this
  rw [show (fun a => PyData.bool (P a)) = (PyData.bool ∘ P) from rfl, this, List.any_map]
  rfl
end DL
namespace DL
open PySem PySem.Spec PyProof.Rows L2
theorem eOr_f {m n : DM D} {σ : Sl} {S S' : Sto} (h : m σ S = .ok (.bl false) S') : eOr m n σ S = n σ S' := by rw [eOr_app, h]; rfl
theorem eOr_t {m n : DM D} {σ : Sl} {S S' : Sto} (h : m σ S = .ok (.bl true) S') : eOr m n σ S = .ok (.bl true) S' := by rw [eOr_app, h]; rfl
theorem eAnd_f {m n : DM D} {σ : Sl} {S S' : Sto} (h : m σ S = .ok (.bl false) S') : eAnd m n σ S = .ok (.bl false) S' := by rw [eAnd_app, h]; rfl
theorem eAnd_t {m n : DM D} {σ : Sl} {S S' : Sto} (h : m σ S = .ok (.bl true) S') : eAnd m n σ S = n σ S' := by rw [eAnd_app, h]; rfl
theorem bOr_f {m n : DM Bool} {σ : Sl} {S S' : Sto} (h : m σ S = .ok false S') : bOr m n σ S = n σ S' := by rw [bOr_app, h]; rfl
theorem bOr_t {m n : DM Bool} {σ : Sl} {S S' : Sto} (h : m σ S = .ok true S') : bOr m n σ S = .ok true S' := by rw [bOr_app, h]; rfl
theorem bNot_ok {m : DM Bool} {k : Bool} {σ : Sl} {S S' : Sto} (h : m σ S = .ok k S') : bNot m σ S = .ok (!k) S' := by rw [bNot_app, h]; rfl
theorem eTru_bl {m : DM D} {k : Bool} {σ : Sl} {S S' : Sto} (h : m σ S = .ok (.bl k) S') : eTru m σ S = .ok k S' := by rw [eTru_app, h]; rfl
theorem eTest_bl {m : DM D} {k : Bool} {σ : Sl} {S S' : Sto} (h : m σ S = .ok (.bl k) S') : eTest m σ S = .ok k S' := by rw [eTest_app, h]; rfl
end DL
namespace DL
open PySem PySem.Spec PyProof.Rows L2
theorem enumIt_range : ∀ (k : Nat) (xs : List PyData), enumIt k xs = (List.range xs.length).map fun i => D.tup [.int ((k + i : Nat) : Int), xs.getD i .none]
  | _, [] => rfl
  | k, x :: xs => by
    rw [enumIt, enumIt_range (k + 1) xs, List.length_cons, List.range_succ_eq_map, List.map_cons, List.map_map]
    congr 1
    refine List.map_congr_left fun i _ => ?_
    show D.tup [.int ((k + 1 + i : Nat) : Int), xs.getD i .none] = D.tup [.int ((k + (i + 1) : Nat) : Int), (x :: xs).getD (i + 1) .none]
    rw [show k + 1 + i = k + (i + 1) by omega]
    rfl
theorem okEq_ones {α : Type} (l : List α) : okEq (.list (l.map fun _ => .int 1)) = true := by
  have h1 : PyData.canLayAll0 (l.map fun _ => PyData.int 1) = true ∧ PyData.depthAll (l.map fun _ => PyData.int 1) = 0 := by
    induction l with
    | nil => exact ⟨rfl, rfl⟩
    | cons a r ih =>
      obtain ⟨i1, i2⟩ := ih
      simp only [List.map_cons, PyData.canLayAll0, PyData.depthAll, i1, i2, PyData.canLay0, PyData.depth]
      exact ⟨rfl, rfl⟩
  unfold okEq SeqAt.shaped
  simp [PyData.canLay0, PyData.depth, h1.1, h1.2]
theorem ones_ne {α : Type} (l : List α) (S : Sto) : opEq true (.pd (.list (l.map fun _ => .int 1))) (.pd (.list [])) S = .ok (.bl (!l.isEmpty)) S := by
  refine (opEq_ex true (okEq_ones l) (y := .list []) (okEq_ones ([] : List Nat)) S).trans ?_
  cases l <;> rfl
theorem fMax1_ints (ns : List Int) (h : ns ≠ []) (S : Sto) : fMax1 [.lst (ns.map .int)] S = .ok (.int (mostI ns)) S := by
  unfold fMax1 intsOf asL
  dsimp only
  rw [pdL_map]
  dsimp only
  rw [intsL_map]
  dsimp only
  rw [if_pos h]
theorem cut1 {α : Type} (xs : List α) : cut xs (some 1) none = xs.drop 1 := by
  cases xs with
  | nil => simp [cut]
  | cons x r =>
    simp [cut, HT.sIx]
end DL
end
section
namespace DL
open PySem PySem.Spec PyProof.Rows L2
theorem opAdd_tup {xs ys : List PyData} (h : xs.length + ys.length ≤ 10000) (S : Sto) : opAdd (.tup xs) (.tup ys) S = .ok (.tup (xs ++ ys)) S := by
  show (if xs.length + ys.length ≤ sizeLine then Out.ok (D.tup (xs ++ ys)) S else .stuck) = _
  rw [if_pos (by rw [sizeLine_eq]; omega)]
theorem opAdd_lst {xs ys : List PyData} (h : xs.length + ys.length ≤ 10000) (S : Sto) : opAdd (.lst xs) (.lst ys) S = .ok (.lst (xs ++ ys)) S := by
  show (match asL S (.lst xs), asL S (.lst ys) with
    | some xs, some ys => (match pdL (xs ++ ys) with
      | some zs => if zs.length ≤ sizeLine then Out.ok (D.lst zs) S else .stuck
      | none => .stuck)
    | _, _ => .stuck) = _
  unfold asL
  dsimp only
  rw [← List.map_append, pdL_map]
  dsimp only
  rw [if_pos (by rw [sizeLine_eq, List.length_append]; omega)]
theorem flat_rep (x : PyData) : ∀ k : Nat, (List.replicate k [x]).flatten = List.replicate k x
  | 0 => rfl
  | k + 1 => by rw [List.replicate_succ, List.replicate_succ, List.flatten_cons, flat_rep x k]; rfl
theorem opMul_tup1 (x : PyData) {k : Nat} (h2 : 2 ≤ k) (h : k ≤ 1000) (S : Sto) : opMul2 (.tup [x]) (.int k) S = .ok (.tup (List.replicate k x)) S := by
  have e : opMul2 (.tup [x]) (.int k) S = if -(2 ^ 63) ≤ (k : Int) ∧ (k : Int) < 2 ^ 63 then (if [x] = [] ∨ (k : Int) = 1 then .ok (.tup [x]) S else if (k : Int) ≤ 0 then .ok (.tup []) S else opMul (.tup [x]) (.int k) S) else .stuck := rfl
  rw [e, if_pos ⟨by omega, by omega⟩, if_neg (by simp; omega), if_neg (by omega)]
  show (if [x] ≠ [] ∧ 2 ≤ (k : Int) ∧ (k : Int) ≤ 1000 ∧ [x].length ≤ 1000 then Out.ok (D.tup (List.replicate (k : Int).toNat [x]).flatten) S else .stuck) = _
  rw [if_pos ⟨by simp, by omega, by omega, by simp⟩, Int.toNat_natCast]
  rw [flat_rep]
theorem opMul_lst1 (x : PyData) {k : Nat} (h : k ≤ 1000) (S : Sto) : opMul2 (.lst [x]) (.int k) S = .ok (.lst (List.replicate k x)) S := by
  have e : opMul2 (.lst [x]) (.int k) S = if -(2 ^ 63) ≤ (k : Int) ∧ (k : Int) < 2 ^ 63 ∧ [x].length * (k : Int).toNat ≤ sizeLine then .ok (.lst (List.replicate (k : Int).toNat [x]).flatten) S else .stuck := rfl
  rw [e, if_pos ⟨by omega, by omega, by rw [sizeLine_eq]; simp; omega⟩, Int.toNat_natCast]
  rw [flat_rep]
theorem cut_take {α : Type} (xs : List α) (k : Nat) : cut xs none (some (k : Int)) = xs.take k := by
  unfold cut
  rw [HT.sIx_none, HT.sIx_nat, List.drop_zero, Nat.sub_zero]
  by_cases h : k ≤ xs.length
  · rw [Nat.min_eq_left h]
  · rw [Nat.min_eq_right (by omega), List.take_length, List.take_of_length_le (by omega)]
theorem cut_drop {α : Type} (xs : List α) (k : Nat) : cut xs (some (k : Int)) none = xs.drop k := by
  unfold cut
  rw [HT.sIx_none, HT.sIx_nat]
  by_cases h : k ≤ xs.length
  · rw [Nat.min_eq_left h, List.take_of_length_le (by rw [List.length_drop]; exact Nat.le_refl _)]
  · rw [Nat.min_eq_right (by omega), List.drop_length, List.take_nil, List.drop_of_length_le (by omega)]
theorem slD_take (xs : List PyData) (k : Nat) (S : Sto) : slD S (.tup xs) none (some (k : Int)) = .ok (.tup (xs.take k)) S := by
  show Out.ok (D.tup (cut xs none (some (k : Int)))) S = _
  rw [cut_take]
theorem slD_drop (xs : List PyData) (k : Nat) (S : Sto) : slD S (.tup xs) (some (k : Int)) none = .ok (.tup (xs.drop k)) S := by
  show Out.ok (D.tup (cut xs (some (k : Int)) none)) S = _
  rw [cut_drop]
theorem fList_tup (xs : List PyData) (S : Sto) : fList [.tup xs] S = .ok (.lst xs) S := by
  simp [fList, asQ]
theorem opMul_tupK (x : PyData) {k : Nat} (h : k ≤ 1000) (S : Sto) : opMul2 (.tup [x]) (.int k) S = .ok (.tup (List.replicate k x)) S := by
  by_cases h2 : 2 ≤ k
  · exact opMul_tup1 x h2 h S
  · have e : opMul2 (.tup [x]) (.int k) S = if -(2 ^ 63) ≤ (k : Int) ∧ (k : Int) < 2 ^ 63 then (if [x] = [] ∨ (k : Int) = 1 then .ok (.tup [x]) S else if (k : Int) ≤ 0 then .ok (.tup []) S else opMul (.tup [x]) (.int k) S) else .stuck := rfl
    rw [e, if_pos ⟨by omega, by omega⟩]
    by_cases h1 : k = 1
    · subst h1
      rw [if_pos (.inr rfl)]; rfl
    · have h0 : k = 0 := by omega
      subst h0
      rw [if_neg (by simp), if_pos (by omega)]; rfl
theorem eLst1_ok {m : DM D} {x : PyData} {σ : Sl} {S S' : Sto} (h : m σ S = .ok (.pd x) S') : eLst (lCons m lNil) σ S = .ok (.lst [x]) S' := by
  rw [eLst_app, lCons_app, h]
  exact mkLst1 x σ S'
theorem call4_ok {n : Nat} {f : DF} {m m2 m3 m4 : DM D} {d e e3 e4 d' : D} {σ : Sl} {S S' S2 S3 S4 S5 : Sto} (h : m σ S = .ok d S') (h2 : m2 σ S' = .ok e S2) (h3 : m3 σ S2 = .ok e3 S3) (h4 : m4 σ S3 = .ok e4 S4) (hf : callF n f [d, e, e3, e4] σ S4 = .ok d' S5) : mBind (lCons m (lCons m2 (lCons m3 (lCons m4 lNil)))) (callF n f) σ S = .ok d' S5 := by
  rw [mBind_app, lCons_app, h, Out.bind_ok, lCons_app, h2, Out.bind_ok, lCons_app, h3, Out.bind_ok, lCons_app, h4]
  exact hf
theorem call5_ok {n : Nat} {f : DF} {m m2 m3 m4 m5 : DM D} {d e e3 e4 e5 d' : D} {σ : Sl} {S S' S2 S3 S4 S5 S6 : Sto} (h : m σ S = .ok d S') (h2 : m2 σ S' = .ok e S2) (h3 : m3 σ S2 = .ok e3 S3) (h4 : m4 σ S3 = .ok e4 S4) (h5 : m5 σ S4 = .ok e5 S5) (hf : callF n f [d, e, e3, e4, e5] σ S5 = .ok d' S6) : mBind (lCons m (lCons m2 (lCons m3 (lCons m4 (lCons m5 lNil))))) (callF n f) σ S = .ok d' S6 := by
  rw [mBind_app, lCons_app, h, Out.bind_ok, lCons_app, h2, Out.bind_ok, lCons_app, h3, Out.bind_ok, lCons_app, h4, Out.bind_ok, lCons_app, h5]
  exact hf
theorem eTup2_ok {m0 m1 : DM D} {x0 x1 : PyData} {σ : Sl} {S0 S1 S2 : Sto} (h0 : m0 σ S0 = .ok (.pd x0) S1) (h1 : m1 σ S1 = .ok (.pd x1) S2) : eTup (lCons m0 (lCons m1 lNil)) σ S0 = .ok (.tup [x0, x1]) S2 := by
  rw [eTup_app, lCons_app, h0, Out.bind_ok, lCons_app, h1, Out.bind_ok, lNil_app, Out.bind_ok, Out.bind_ok, Out.bind_ok]
  exact mkTup2 _ _ σ S2
theorem eLst2_ok {m0 m1 : DM D} {x0 x1 : PyData} {σ : Sl} {S0 S1 S2 : Sto} (h0 : m0 σ S0 = .ok (.pd x0) S1) (h1 : m1 σ S1 = .ok (.pd x1) S2) : eLst (lCons m0 (lCons m1 lNil)) σ S0 = .ok (.lst [x0, x1]) S2 := by
  rw [eLst_app, lCons_app, h0, Out.bind_ok, lCons_app, h1, Out.bind_ok, lNil_app, Out.bind_ok, Out.bind_ok, Out.bind_ok]
  exact mkLst2 _ _ σ S2
theorem eTup3_ok {m0 m1 m2 : DM D} {x0 x1 x2 : PyData} {σ : Sl} {S0 S1 S2 S3 : Sto} (h0 : m0 σ S0 = .ok (.pd x0) S1) (h1 : m1 σ S1 = .ok (.pd x1) S2) (h2 : m2 σ S2 = .ok (.pd x2) S3) : eTup (lCons m0 (lCons m1 (lCons m2 lNil))) σ S0 = .ok (.tup [x0, x1, x2]) S3 := by
  rw [eTup_app, lCons_app, h0, Out.bind_ok, lCons_app, h1, Out.bind_ok, lCons_app, h2, Out.bind_ok, lNil_app, Out.bind_ok, Out.bind_ok, Out.bind_ok, Out.bind_ok]
  exact mkTup3 _ _ _ σ S3
theorem eLst3_ok {m0 m1 m2 : DM D} {x0 x1 x2 : PyData} {σ : Sl} {S0 S1 S2 S3 : Sto} (h0 : m0 σ S0 = .ok (.pd x0) S1) (h1 : m1 σ S1 = .ok (.pd x1) S2) (h2 : m2 σ S2 = .ok (.pd x2) S3) : eLst (lCons m0 (lCons m1 (lCons m2 lNil))) σ S0 = .ok (.lst [x0, x1, x2]) S3 := by
  rw [eLst_app, lCons_app, h0, Out.bind_ok, lCons_app, h1, Out.bind_ok, lCons_app, h2, Out.bind_ok, lNil_app, Out.bind_ok, Out.bind_ok, Out.bind_ok, Out.bind_ok]
  exact mkLst3 _ _ _ σ S3
theorem eTup4_ok {m0 m1 m2 m3 : DM D} {x0 x1 x2 x3 : PyData} {σ : Sl} {S0 S1 S2 S3 S4 : Sto} (h0 : m0 σ S0 = .ok (.pd x0) S1) (h1 : m1 σ S1 = .ok (.pd x1) S2) (h2 : m2 σ S2 = .ok (.pd x2) S3) (h3 : m3 σ S3 = .ok (.pd x3) S4) : eTup (lCons m0 (lCons m1 (lCons m2 (lCons m3 lNil)))) σ S0 = .ok (.tup [x0, x1, x2, x3]) S4 := by
  rw [eTup_app, lCons_app, h0, Out.bind_ok, lCons_app, h1, Out.bind_ok, lCons_app, h2, Out.bind_ok, lCons_app, h3, Out.bind_ok, lNil_app, Out.bind_ok, Out.bind_ok, Out.bind_ok, Out.bind_ok, Out.bind_ok]
  exact mkTup4 _ _ _ _ σ S4
theorem eLst4_ok {m0 m1 m2 m3 : DM D} {x0 x1 x2 x3 : PyData} {σ : Sl} {S0 S1 S2 S3 S4 : Sto} (h0 : m0 σ S0 = .ok (.pd x0) S1) (h1 : m1 σ S1 = .ok (.pd x1) S2) (h2 : m2 σ S2 = .ok (.pd x2) S3) (h3 : m3 σ S3 = .ok (.pd x3) S4) : eLst (lCons m0 (lCons m1 (lCons m2 (lCons m3 lNil)))) σ S0 = .ok (.lst [x0, x1, x2, x3]) S4 := by
  rw [eLst_app, lCons_app, h0, Out.bind_ok, lCons_app, h1, Out.bind_ok, lCons_app, h2, Out.bind_ok, lCons_app, h3, Out.bind_ok, lNil_app, Out.bind_ok, Out.bind_ok, Out.bind_ok, Out.bind_ok, Out.bind_ok]
  exact mkLst4 _ _ _ _ σ S4
end DL
end
section
namespace DL
open PySem PySem.Spec PyProof.Rows L2
/-! ### rows of whole numbers from 0 on -/
abbrev nt (i : Nat) : PyData := .int i
theorem eqv_nt (a b : Nat) : PyData.eqv (nt a) (nt b) = decide (a = b) := by
  by_cases h : a = b
  · subst h; simp [PyData.eqv]
  · have : ¬ ((a : Int) = (b : Int)) := by omega
    simp [PyData.eqv, h, this]
theorem eqvAll_nts : ∀ l m : List Nat, PyData.eqvAll (l.map nt) (m.map nt) = decide (l = m)
  | [], [] => rfl
  | [], _ :: _ => by simp [PyData.eqvAll]
  | _ :: _, [] => by simp [PyData.eqvAll]
  | a :: l, b :: m => by
    rw [List.map_cons, List.map_cons, PyData.eqvAll, eqv_nt, eqvAll_nts l m]
    by_cases h1 : a = b <;> by_cases h2 : l = m <;> simp [h1, h2]
theorem flat_nts (l : List Nat) : PyData.canLayAll0 (l.map nt) = true ∧ PyData.depthAll (l.map nt) = 0 ∧ PyData.hasDictAll (l.map nt) = false := by
  induction l with
  | nil => exact ⟨rfl, rfl, rfl⟩
  | cons x r ih => exact ⟨by rw [List.map_cons, PyData.canLayAll0, ih.1]; rfl, by rw [List.map_cons, PyData.depthAll, ih.2.1]; rfl, by rw [List.map_cons, PyData.hasDictAll, ih.2.2]; rfl⟩
theorem okEq_ntsL (l : List Nat) : okEq (.list (l.map nt)) = true := by
  obtain ⟨h1, h2, _⟩ := flat_nts l
  unfold okEq SeqAt.shaped
  simp [PyData.canLay0, PyData.depth, h1, h2]
theorem okEq_ntsT (l : List Nat) : okEq (.tuple (l.map nt)) = true := by
  obtain ⟨h1, h2, _⟩ := flat_nts l
  unfold okEq SeqAt.shaped
  simp [PyData.canLay0, PyData.depth, h1, h2]
theorem opEq_ntsL (ne : Bool) (l m : List Nat) (S : Sto) : opEq ne (.lst (l.map nt)) (.lst (m.map nt)) S = .ok (.bl (decide (l = m) ^^ ne)) S := by
  rw [opEq_ex ne (okEq_ntsL l) (okEq_ntsL m), show PyData.eqv (.list (l.map nt)) (.list (m.map nt)) = PyData.eqvAll (l.map nt) (m.map nt) by simp only [PyData.eqv], eqvAll_nts]
theorem opEq_ntsT (ne : Bool) (l m : List Nat) (S : Sto) : opEq ne (.tup (l.map nt)) (.tup (m.map nt)) S = .ok (.bl (decide (l = m) ^^ ne)) S := by
  rw [opEq_ex ne (okEq_ntsT l) (okEq_ntsT m), show PyData.eqv (.tuple (l.map nt)) (.tuple (m.map nt)) = PyData.eqvAll (l.map nt) (m.map nt) by simp only [PyData.eqv], eqvAll_nts]
theorem opIn_nts (ne : Bool) (k : Nat) (l : List Nat) (S : Sto) : opIn ne (.int k) (.tup (l.map nt)) S = .ok (.bl (decide (k ∈ l) ^^ ne)) S := by
  show (if okEq (.int (k : Int)) && okEq (.tuple (l.map nt)) then Out.ok (D.bl (((l.map nt).any fun z => PyData.eqv z (.int (k : Int))) ^^ ne)) S else .stuck) = _
  rw [okEq_int, okEq_ntsT]
  have : ((l.map nt).any fun z => PyData.eqv z (.int (k : Int))) = decide (k ∈ l) := by
    induction l with
    | nil => rfl
    | cons a l ih =>
      rw [List.map_cons, List.any_cons, ih, eqv_nt]
      by_cases h1 : a = k
      · subst h1; simp
      · have h3 : ¬ k = a := fun h => h1 h.symm
        by_cases h2 : k ∈ l <;> simp [h1, h2, h3]
  rw [this]
  rfl
theorem sortD_nts (l : List Nat) (h : l.Pairwise (· ≤ ·)) : sortD (l.map nt) = l.map nt := by
  unfold sortD
  refine List.mergeSort_of_pairwise ?_
  have e := PySem.W.dataLe_int (β := Nat) (fun i => (i : Int))
  rw [List.pairwise_map]
  refine h.imp fun {a b} hab => ?_
  have := congrFun (congrFun e a) b
  refine (show PySem.W.dataLe false id (nt a) (nt b) = PySem.W.dataLe false (fun (b : Nat) => PyData.int (b : Int)) a b from rfl).trans (this.trans ?_)
  exact decide_eq_true (by omega)
theorem sortOk_nts (l : List Nat) : sortOk (l.map nt) := by
  refine ⟨(flat_nts l).2.2, PySem.W.AllAlike.of fun b b' => rfl, PySem.W.Sortable.others fun b => ⟨fun h => (nomatch h), fun xs h => (nomatch h)⟩, fun d hd => ?_⟩
  obtain ⟨p, _, rfl⟩ := List.mem_map.mp hd
  simp [PyData.depth]
theorem fSorted_nts (l : List Nat) (h : l.Pairwise (· ≤ ·)) (S : Sto) : fSorted [.tup (l.map nt)] S = .ok (.lst (l.map nt)) S := by
  have e : asQ S (.tup (l.map nt)) = some ((l.map nt).map D.pd) := rfl
  unfold fSorted
  simp only [e, pdL_map, sortOk_nts, if_true, sortD_nts l h]
theorem intsL_nts (l : List Nat) : intsL (l.map nt) = some (l.map fun (x : Nat) => (x : Int)) := by
  induction l with
  | nil => rfl
  | cons x r ih => rw [List.map_cons, intsL, ih]; rfl
theorem fMax1Q_nts {l : List Nat} {a : Nat} {m : Int} (h : mostI ((a : Int) :: l.map fun (x : Nat) => (x : Int)) = m) (S : Sto) : fMax1Q [.tup ((a :: l).map nt)] S = .ok (.int m) S := by
  show (match intsL ((a :: l).map nt) with
    | some (n :: ns) => Out.ok (D.int (mostI (n :: ns))) S
    | _ => .stuck) = _
  rw [intsL_nts, List.map_cons]
  dsimp only
  rw [h]
end DL
end
section
namespace DL
open PySem PySem.Spec PyProof.Rows L2
/-! ### what terms come to -/
def opv (x : Str) (a b : Nat) : Nat :=
  if x = "plus" then (a + b) % 997 else if x = "minus" then (a + 997 - b) % 997 else if x = "times" then a * b % 997 else
  if x = "over" then (if b = 0 then 0 else a / b) else if x = "rest" then (if b = 0 then 0 else a % b) else
  if x = "less" then (if a < b then 1 else 0) else if x = "same" then (if a = b then 1 else 0) else if x = "low" then min a b else max a b
theorem opv_lt {x : Str} {a b : Nat} (ha : a < 997) (hb : b < 997) : opv x a b < 997 := by
  unfold opv
  repeat' split
  all_goals first
    | omega
    | exact Nat.mod_lt _ (by omega)
    | exact Nat.lt_of_le_of_lt (Nat.div_le_self _ _) ha
    | exact Nat.lt_trans (Nat.mod_lt _ (by omega)) hb
def lstV (f : Nat → Nat → Nat) : List Nat → Nat
  | [] => 0
  | n :: ns => ns.foldl f n
def lfv (x : Str) (w : Nat) (hp : List Nat) : Nat :=
  if x = "ties" then hp.length else if x = "sum" then hp.sum % 997 else if x = "least" then lstV min hp else if x = "most" then lstV max hp else w
theorem foldl_lt {f : Nat → Nat → Nat} (hf : ∀ a b, a < 997 → b < 997 → f a b < 997) : ∀ (l : List Nat) (n : Nat), n < 997 → (∀ x ∈ l, x < 997) → l.foldl f n < 997
  | [], n, h, _ => h
  | x :: l, n, h, hl => foldl_lt hf l (f n x) (hf n x h (hl x (by simp))) fun y hy => hl y (by simp [hy])
theorem lstV_lt {f : Nat → Nat → Nat} (hf : ∀ a b, a < 997 → b < 997 → f a b < 997) : ∀ l : List Nat, (∀ x ∈ l, x < 997) → lstV f l < 997
  | [], _ => by show 0 < 997; omega
  | n :: ns, h => foldl_lt hf ns n (h n (by simp)) fun y hy => h y (by simp [hy])
/-- a worth, a heap -/
structure GH (w : Nat) (hp : List Nat) : Prop where
  wl : w < 997
  all : ∀ x ∈ hp, x < 997
  len : hp.length ≤ 11
theorem lfv_lt {x : Str} {w : Nat} {hp : List Nat} (h : GH w hp) : lfv x w hp < 997 := by
  have h1 := h.wl
  have h2 := h.len
  unfold lfv
  repeat' split
  · omega
  · exact Nat.mod_lt _ (by omega)
  · exact lstV_lt (fun a b ha hb => by omega) hp h.all
  · exact lstV_lt (fun a b ha hb => by omega) hp h.all
  · omega
def Trm.val (w : Nat) (hp : List Nat) : Trm → Nat
  | .num i => i
  | .leaf x => lfv x w hp
  | .many k => hp.count k
  | .op x a b => opv x (Trm.val w hp a) (Trm.val w hp b)
  | .cond c a b => if Trm.val w hp c = 0 then Trm.val w hp b else Trm.val w hp a
theorem val_lt {w : Nat} {hp : List Nat} (h : GH w hp) : ∀ t : Trm, t.Wf → t.val w hp < 997
  | .num i, hi => hi
  | .leaf x, _ => lfv_lt h
  | .many k, _ => by
    show hp.count k < 997
    have := List.count_le_length (a := k) (l := hp)
    have := h.len
    omega
  | .op x a b, ⟨_, ha, hb⟩ => opv_lt (val_lt h a ha) (val_lt h b hb)
  | .cond c a b, ⟨_, ha, hb⟩ => by
    show (if Trm.val w hp c = 0 then Trm.val w hp b else Trm.val w hp a) < 997
    split
    · exact val_lt h b hb
    · exact val_lt h a ha
/-- what does not look hangs on how many there are alone -/
theorem val_len {w : Nat} {hp hq : List Nat} (hl : hp.length = hq.length) : ∀ t : Trm, t.Wf → t.looks = false → t.val w hp = t.val w hq
  | .num i, _, _ => rfl
  | .leaf x, _, hk => by
    have hk : decide (x ∈ (["sum", "least", "most"] : List Str)) = false := hk
    have hk := of_decide_eq_false hk
    simp only [List.mem_cons, List.not_mem_nil, or_false, not_or] at hk
    show lfv x w hp = lfv x w hq
    unfold lfv
    rw [if_neg hk.1, if_neg hk.2.1, if_neg hk.2.2, if_neg hk.1, if_neg hk.2.1, if_neg hk.2.2, hl]
  | .many k, _, hk => absurd hk (by show ¬ (true = false); decide)
  | .op x a b, ⟨_, ha, hb⟩, hk => by
    have hk : (a.looks || b.looks) = false := hk
    rw [Bool.or_eq_false_iff] at hk
    show opv x (Trm.val w hp a) (Trm.val w hp b) = opv x (Trm.val w hq a) (Trm.val w hq b)
    rw [val_len hl a ha hk.1, val_len hl b hb hk.2]
  | .cond c a b, ⟨hc, ha, hb⟩, hk => by
    have hk : (c.looks || (a.looks || b.looks)) = false := hk
    rw [Bool.or_eq_false_iff, Bool.or_eq_false_iff] at hk
    show (if Trm.val w hp c = 0 then Trm.val w hp b else Trm.val w hp a) = (if Trm.val w hq c = 0 then Trm.val w hq b else Trm.val w hq a)
    rw [val_len hl c hc hk.1, val_len hl a ha hk.2.1, val_len hl b hb hk.2.2]
/-! ### the readings on a heap -/
section
variable {S : Sto} {σ : Sl}
theorem intsL_nt (l : List Nat) : intsL (l.map nt) = some (l.map fun (x : Nat) => (x : Int)) := intsL_nts l
theorem count_cast (k : Nat) : ∀ l : List Nat, (l.map fun (x : Nat) => (x : Int)).count (k : Int) = l.count k
  | [] => rfl
  | x :: l => by
    rw [List.map_cons, List.count_cons, List.count_cons, count_cast k l]
    congr 1
    have : ((x : Int) == (k : Int)) = (x == k) := by
      by_cases h : x = k
      · subst h; simp
      · have : ¬ ((x : Int) = (k : Int)) := by omega
        rw [beq_eq_false_iff_ne.mpr this, beq_eq_false_iff_ne.mpr h]
    rw [this]
theorem opCnt_nts (l : List Nat) (k : Nat) : opCnt (l.map nt) [.int k] S = .ok (.int (l.count k : Nat)) S := by
  show (match intsL (l.map nt) with
    | some ns => Out.ok (D.int (ns.count (k : Int) : Nat)) S
    | none => .stuck) = _
  rw [intsL_nt]
  dsimp only
  rw [count_cast]
theorem sum_cast : ∀ l : List Nat, (l.map fun (x : Nat) => (x : Int)).sum = ((l.sum : Nat) : Int)
  | [] => rfl
  | x :: l => by rw [List.map_cons, List.sum_cons, List.sum_cons, sum_cast l]; omega
theorem fSum1Q_nts (l : List Nat) : fSum1Q [.tup (l.map nt)] S = .ok (.int (l.sum : Nat)) S := by
  show (match intsL (l.map nt) with
    | some ns => Out.ok (D.int ns.sum) S
    | none => .stuck) = _
  rw [intsL_nt]
  dsimp only
  rw [sum_cast]
theorem foldl_cast {f : Int → Int → Int} {g : Nat → Nat → Nat} (h : ∀ a b : Nat, f a b = (g a b : Nat)) : ∀ (l : List Nat) (n : Nat), (l.map fun (x : Nat) => (x : Int)).foldl f (n : Int) = ((l.foldl g n : Nat) : Int)
  | [], _ => rfl
  | x :: l, n => by rw [List.map_cons, List.foldl_cons, List.foldl_cons, h, foldl_cast h l]
theorem fMinDf_nts (l : List Nat) : fMinDf [.tup (l.map nt)] [.int 0] S = .ok (.int (lstV min l : Nat)) S := by
  show (match intsL (l.map nt) with
      | some [] => Out.ok (D.int 0) S
      | some (n :: ns) => .ok (.int (ns.foldl min n)) S
      | none => .stuck) = _
  rw [intsL_nt]
  cases l with
  | nil => rfl
  | cons n ns =>
    rw [List.map_cons]
    dsimp only
    rw [foldl_cast (g := min) (fun a b => by omega) ns n]
    rfl
theorem fMaxDf_nts (l : List Nat) : fMaxDf [.tup (l.map nt)] [.int 0] S = .ok (.int (lstV max l : Nat)) S := by
  show (match intsL (l.map nt) with
      | some [] => Out.ok (D.int 0) S
      | some (n :: ns) => .ok (.int (ns.foldl max n)) S
      | none => .stuck) = _
  rw [intsL_nt]
  cases l with
  | nil => rfl
  | cons n ns =>
    rw [List.map_cons]
    dsimp only
    rw [foldl_cast (g := max) (fun a b => by omega) ns n]
    rfl
theorem eCallK_ok {f : List D → List D → Sto → Out D} {m k : DM D} {d e d' : D} {S' S2 S3 : Sto} (h : m σ S = .ok d S') (h2 : k σ S' = .ok e S2) (hf : f [d] [e] S2 = .ok d' S3) : eCallK f (lCons m lNil) (lCons k lNil) σ S = .ok d' S3 := by
  unfold eCallK
  rw [mBind_app, lCons_app, h, Out.bind_ok, lNil_app, Out.bind_ok, Out.bind_ok, mBind_app, lCons_app, h2, Out.bind_ok, lNil_app, Out.bind_ok, Out.bind_ok]
  exact hf
theorem eCntX_ok {mo m : DM D} {xs : List PyData} {d d' : D} {S' S2 S3 : Sto} (h : mo σ S = .ok (.xt xs) S') (h2 : m σ S' = .ok d S2) (hf : opCnt xs [d] S2 = .ok d' S3) : eCntX mo (lCons m lNil) σ S = .ok d' S3 := by
  unfold eCntX
  rw [mBind_app, h, Out.bind_ok]
  dsimp only
  rw [mBind_app, lCons_app, h2, Out.bind_ok, lNil_app, Out.bind_ok, Out.bind_ok]
  exact hf
theorem eVarW_xt {i : Nat} {xs : List PyData} (h : σ[i]? = some (some (.xt xs))) : eVarW i σ S = .ok (.tup xs) S := by
  unfold eVarW
  rw [h]
  rfl
theorem fTupleX_lst (xs : List PyData) : fTupleX [.lst xs] S = .ok (.xt xs) S := by
  unfold fTupleX asL
  simp only [pdL_map]
theorem eTabCall2_ok {tab : List (Str × DF)} {mk m m2 : DM D} {x : Str} {f : DF} {d e d' : D} {S' S2 S3 S4 : Sto} (hk : mk σ S = .ok (.str x) S') (ht : tabGet tab x = some f) (h : m σ S' = .ok d S2) (h2 : m2 σ S2 = .ok e S3) (hf : callF 2 f [d, e] σ S3 = .ok d' S4) :
    eTabCall 2 tab mk (lCons m (lCons m2 lNil)) σ S = .ok d' S4 := by
  unfold eTabCall
  rw [mBind_app, hk, Out.bind_ok]
  have : tabFn tab (.str x) = some f := ht
  rw [this]
  exact call2_ok h h2 hf
end
end DL
end
section
namespace K04
open PySem PySem.Spec PyProof.Rows L2 DL
def topS (i : Nat) : Stmt := PySem.Challenge.pw_comeright_k04_what_terms_come_to.main.body.getD i (.Pass ⟨0, 0, 0, 0⟩)
structure Txt (K : PySem.W.Frag) (P : Params) (mg : Str → Option Value) : Prop where
  n_abs : mg "abs" = none
  n_all : mg "all" = none
  n_bool : mg "bool" = none
  n_int : mg "int" = none
  n_isinstance : mg "isinstance" = none
  n_len : mg "len" = none
  n_list : mg "list" = none
  n_max : mg "max" = none
  n_min : mg "min" = none
  n_range : mg "range" = none
  n_repr : mg "repr" = none
  n_sorted : mg "sorted" = none
  n_str : mg "str" = none
  n_sum : mg "sum" = none
  n_tuple : mg "tuple" = none
  c_WORTHS : ∃ t, mg "WORTHS" = some (.int 997 t)
  c_MANY : ∃ t, mg "MANY" = some (.str "many" t)
  c_HEAP_LEAVES : CstD K mg "HEAP_LEAVES" (PyData.tuple (List.map PyData.str ["sum", "least", "most"]))
  c_OPS : TabD K P mg "OPS" [("plus", "plus_of"), ("minus", "minus_of"), ("times", "times_of"), ("over", "over_of"), ("rest", "rest_of"), ("less", "less_of"), ("same", "same_of"), ("low", "low_of"), ("high", "high_of")] ["if", "law_comeright_k04_what_terms_come_to", "least", "many", "most", "own", "sum", "ties", "word"]
  c_IF : ∃ t, mg "IF" = some (.str "if" t)
  c_MOST_DEEP : ∃ t, mg "MOST_DEEP" = some (.int 5 t)
  c_MOST_TERMS : ∃ t, mg "MOST_TERMS" = some (.int 40 t)
  c_FIRST_LEAVES : CstD K mg "FIRST_LEAVES" (PyData.tuple (List.map PyData.str ["word", "ties"]))
  c_NEXT_LEAVES : CstD K mg "NEXT_LEAVES" (PyData.tuple (List.map PyData.str ["own", "ties", "sum", "least", "most"]))
  c_MOST_SEATS : ∃ t, mg "MOST_SEATS" = some (.int 12 t)
/-! _law_pool -/
abbrev s__law_pool : Stmt := topS 40
abbrev N__law_pool : List Str := ["cells", "k", "cell", "great", "mixed"]
abbrev P__law_pool : List Str := ["cells", "k"]
noncomputable def m__law_pool : DM Fl := (sSeq (sSet 2 (eIf (eTest (eOp opLt (eVar 1) (eCall fLen (lCons (eVar 0) lNil)))) (eOp opIx (eVar 0) (eVar 1)) (eK (.int 0))))
    (sSeq (sSet 3 (eCall fAbs (lCons (eVar 2) lNil)))
    (sSeq (sSet 4 (eOp opMod (eOp opAdd (eOp opAdd (eOp opAdd (eOp opMul2 (eOp opMod (eVar 3) (eK (.int 2147483629))) (eK (.int 48271))) (eOp opMul2 (eK (.int 977)) (eVar 1))) (eOp opMul2 (eK (.int 2)) (eCall fInt (lCons (eOp opLt (eVar 2) (eK (.int 0))) lNil)))) (eK (.int 5))) (eK (.int 2147483647))))
    (sRet (eLstM (lCons (eIf (eTest (eOp (opCmpI fun i j => decide (j ≤ i)) (eVar 3) (eOp opPow (eK (.int 10)) (eK (.int 18))))) (eOp opSub (eVar 3) (eOp opPow (eK (.int 10)) (eK (.int 18)))) (eK (.int 0))) (lCons (eVar 4) (lCons (eK (.int 0)) lNil))))))))
noncomputable def f__law_pool : DF := runFM 5 m__law_pool
theorem sc__law_pool : FnScope N__law_pool P__law_pool (defScope s__law_pool) := ⟨rfl, rfl, rfl, by decide +kernel, rfl, by decide +kernel, by decide +kernel⟩
theorem ok__law_pool {P : Program} {w : World} {K : PySem.W.Frag} {mg : Str → Option Value} {base : Heap} {a : Addr} {fd : FuncData} (T : Txt K w.params mg) (F : Fun K "_law_pool" "_law_pool" s__law_pool a fd) : FnG P w K mg base 1 a fd P__law_pool (spM K mg 2 f__law_pool) := by
  refine Fun.dlM (N := N__law_pool) F sc__law_pool fun cdv A outer s H E W as hr => ?_
  have Sc := sc__law_pool
  have hu := hr.rm.units
  have hu65 := units65 hr.rm
  have hu1 := units1 hr.rm
  exact (qs_cons (qs_set (i := 2) Sc.nd rfl (by first | exact Or.inl rfl | exact Or.inr rfl) (px_ifExp (pt_cmpX (ox_lt rfl hu) (pd_var 1) (px_callB (cx_len rfl) (by rfl) T.n_len (by decide +kernel) (px_cons (pd_var 0) px_nil)) (by rfl)) (px_ix rfl (pd_var 0) (pd_var 1)) pd_int))
    (qs_cons (qs_set (i := 3) Sc.nd rfl (by first | exact Or.inl rfl | exact Or.inr rfl) (px_callB cx_abs (by rfl) T.n_abs (by decide +kernel) (px_cons (pd_var 2) px_nil)))
    (qs_cons (qs_set (i := 4) Sc.nd rfl (by first | exact Or.inl rfl | exact Or.inr rfl) (px_op ox_mod (px_op (ox_add rfl) (px_op (ox_add rfl) (px_op (ox_add rfl) (px_op (ox_mul2 rfl) (px_op ox_mod (pd_var 3) pd_int) pd_int) (px_op (ox_mul2 rfl) pd_int (pd_var 1))) (px_op (ox_mul2 rfl) pd_int (px_callTy cx_int (by rfl) T.n_int (by decide +kernel) (px_cons (px_cmp (ox_lt rfl hu) (pd_var 2) pd_int (by rfl)) px_nil)))) pd_int) pd_int))
    (qs_one (qs_ret (px_lstM (px_cons (px_ifExp (pt_cmpX ox_ge (pd_var 3) (px_op ox_pow pd_int pd_int) (by rfl)) (px_op ox_sub (pd_var 3) (px_op ox_pow pd_int pd_int)) pd_int) (px_cons (pd_var 4) (px_cons pd_int px_nil)))))))))
/-! _law_take -/
abbrev s__law_take : Stmt := topS 41
abbrev N__law_take : List Str := ["pool", "many", "found", "one", "two"]
abbrev P__law_take : List Str := ["pool", "many"]
noncomputable def m__law_take : DM Fl := (sSeq (sIf (eTest (eOp (opCmpI fun i j => decide (j < i)) (eOp opIx (eVar 0) (eK (.int 0))) (eK (.int 0)))) (sSeq (sSet 2 (eOp opMod (eOp opIx (eVar 0) (eK (.int 0))) (eVar 1)))
    (sSeq (sSetIx (eVar 0) (eK (.int 0)) (eOp opDiv (eOp opIx (eVar 0) (eK (.int 0))) (eVar 1)))
    (sRet (eVar 2)))) sNext)
    (sSeq (sSetIx (eVar 0) (eK (.int 2)) (eOp opAdd (eOp opIx (eVar 0) (eK (.int 2))) (eK (.int 1))))
    (sSeq (sSet 3 (eOp opMod (eOp opAdd (eOp opIx (eVar 0) (eK (.int 1))) (eOp opMul2 (eK (.int 1000003)) (eOp opIx (eVar 0) (eK (.int 2))))) (eK (.int 2305843009213693951))))
    (sSeq (sSet 4 (eOp opMod (eOp opAdd (eOp opMul2 (eOp opMod (eOp opMul2 (eVar 3) (eVar 3)) (eK (.int 2305843009213693921))) (eVar 3)) (eOp opMul2 (eK (.int 8191)) (eOp opIx (eVar 0) (eK (.int 2))))) (eK (.int 2305843009213693907))))
    (sRet (eOp opMod (eOp opDiv (eVar 4) (eK (.int 4096))) (eVar 1)))))))
noncomputable def f__law_take : DF := runF 5 m__law_take
theorem sc__law_take : FnScope N__law_take P__law_take (defScope s__law_take) := ⟨rfl, rfl, rfl, by decide +kernel, rfl, by decide +kernel, by decide +kernel⟩
theorem ok__law_take {P : Program} {w : World} {K : PySem.W.Frag} {mg : Str → Option Value} {base : Heap} {a : Addr} {fd : FuncData} (T : Txt K w.params mg) (F : Fun K "_law_take" "_law_take" s__law_take a fd) : FnG P w K mg base 1 a fd P__law_take (spM K mg 2 f__law_take) := by
  refine Fun.dl (N := N__law_take) F sc__law_take fun cdv A outer s H E W as hr => ?_
  have Sc := sc__law_take
  have hu := hr.rm.units
  have hu65 := units65 hr.rm
  have hu1 := units1 hr.rm
  exact (qs_cons (qs_if (pt_cmpX ox_gt (px_ix rfl (pd_var 0) pd_int) pd_int (by rfl)) (qs_cons (qs_set (i := 2) Sc.nd rfl (by first | exact Or.inl rfl | exact Or.inr rfl) (px_op ox_mod (px_ix rfl (pd_var 0) pd_int) (pd_var 1)))
    (qs_cons (qs_setIx (pd_var 0) pd_int (px_op ox_div (px_ix rfl (pd_var 0) pd_int) (pd_var 1)))
    (qs_one (qs_ret (pd_var 2))))) qs_nil)
    (qs_cons (qs_setIx (pd_var 0) pd_int (px_op (ox_add rfl) (px_ix rfl (pd_var 0) pd_int) pd_int))
    (qs_cons (qs_set (i := 3) Sc.nd rfl (by first | exact Or.inl rfl | exact Or.inr rfl) (px_op ox_mod (px_op (ox_add rfl) (px_ix rfl (pd_var 0) pd_int) (px_op (ox_mul2 rfl) pd_int (px_ix rfl (pd_var 0) pd_int))) pd_int))
    (qs_cons (qs_set (i := 4) Sc.nd rfl (by first | exact Or.inl rfl | exact Or.inr rfl) (px_op ox_mod (px_op (ox_add rfl) (px_op (ox_mul2 rfl) (px_op ox_mod (px_op (ox_mul2 rfl) (pd_var 3) (pd_var 3)) pd_int) (pd_var 3)) (px_op (ox_mul2 rfl) pd_int (px_ix rfl (pd_var 0) pd_int))) pd_int))
    (qs_one (qs_ret (px_op ox_mod (px_op ox_div (pd_var 4) pd_int) (pd_var 1))))))))
/-! _law_any_worth -/
abbrev s__law_any_worth : Stmt := topS 42
abbrev N__law_any_worth : List Str := ["pool"]
abbrev P__law_any_worth : List Str := ["pool"]
noncomputable def m__law_any_worth : DM Fl := (sRet (eOp opIx (eLst (lCons (mBind (lCons (eVar 0) (lCons (eK (.int 4)) lNil)) (callF 2 f__law_take)) (lCons (mBind (lCons (eVar 0) (lCons (eK (.int 12)) lNil)) (callF 2 f__law_take)) (lCons (mBind (lCons (eVar 0) (lCons (eK (.int 997)) lNil)) (callF 2 f__law_take)) (lCons (eK (.int 996)) (lCons (eK (.int 0)) lNil)))))) (mBind (lCons (eVar 0) (lCons (eK (.int 5)) lNil)) (callF 2 f__law_take))))
noncomputable def f__law_any_worth : DF := runF 1 m__law_any_worth
theorem sc__law_any_worth : FnScope N__law_any_worth P__law_any_worth (defScope s__law_any_worth) := ⟨rfl, rfl, rfl, by decide +kernel, rfl, by decide +kernel, by decide +kernel⟩
theorem ok__law_any_worth {P : Program} {w : World} {K : PySem.W.Frag} {mg : Str → Option Value} {base : Heap} {a : Addr} {fd : FuncData} (T : Txt K w.params mg) (F : Fun K "_law_any_worth" "_law_any_worth" s__law_any_worth a fd) (C__law_take : Cal P w K mg base 1 "_law_take" P__law_take f__law_take) : FnG P w K mg base 2 a fd P__law_any_worth (spM K mg 1 f__law_any_worth) := by
  refine Fun.dl (N := N__law_any_worth) F sc__law_any_worth fun cdv A outer s H E W as hr => ?_
  have Sc := sc__law_any_worth
  have hu := hr.rm.units
  have hu65 := units65 hr.rm
  have hu1 := units1 hr.rm
  exact (qs_one (qs_ret (px_ix rfl (px_lst (px_cons (px_callC C__law_take hr (by rfl) rfl rfl (takes_of rfl rfl rfl rfl) (px_cons (pd_var 0) (px_cons pd_int px_nil))) (px_cons (px_callC C__law_take hr (by rfl) rfl rfl (takes_of rfl rfl rfl rfl) (px_cons (pd_var 0) (px_cons pd_int px_nil))) (px_cons (px_callC C__law_take hr (by rfl) rfl rfl (takes_of rfl rfl rfl rfl) (px_cons (pd_var 0) (px_cons pd_int px_nil))) (px_cons pd_int (px_cons pd_int px_nil)))))) (px_callC C__law_take hr (by rfl) rfl rfl (takes_of rfl rfl rfl rfl) (px_cons (pd_var 0) (px_cons pd_int px_nil))))))
/-! _law_any_term -/
abbrev s__law_any_term : Stmt := topS 43
abbrev N__law_any_term : List Str := ["pool", "leaves", "deep", "way", "leaf", "one", "other", "ops"]
abbrev P__law_any_term : List Str := ["pool", "leaves", "deep"]
noncomputable def m__law_any_term (R : DF) : DM Fl := (sSeq (sSet 3 (mBind (lCons (eVar 0) (lCons (eK (.int 8)) lNil)) (callF 2 f__law_take)))
    (sSeq (sIf (bOr (eTest (eOp opLt (eVar 2) (eK (.int 1)))) (eTest (eOp opLt (eVar 3) (eK (.int 2))))) (sSeq (sIf (eTest (eOp (opEq false) (mBind (lCons (eVar 0) (lCons (eK (.int 4)) lNil)) (callF 2 f__law_take)) (eK (.int 0)))) (sRet (mBind (lCons (eVar 0) lNil) (callF 1 f__law_any_worth))) sNext)
    (sSeq (sSet 4 (eOp opIx (eVar 1) (mBind (lCons (eVar 0) (lCons (eCall fLen (lCons (eVar 1) lNil)) lNil)) (callF 2 f__law_take))))
    (sRet (eIf (eTest (eOp (opEq false) (eVar 4) (eTup (lCons (eK (.str "many")) lNil)))) (eTup (lCons (eK (.str "many")) (lCons (mBind (lCons (eVar 0) (lCons (eK (.int 4)) lNil)) (callF 2 f__law_take)) lNil))) (eVar 4))))) sNext)
    (sSeq (sPar 5 6 (lCons (mBind (lCons (eVar 0) (lCons (eVar 1) (lCons (eOp opSub (eVar 2) (eK (.int 1))) lNil))) (callF 3 R)) (lCons (mBind (lCons (eVar 0) (lCons (eVar 1) (lCons (eOp opSub (eVar 2) (eK (.int 1))) lNil))) (callF 3 R)) lNil)))
    (sSeq (sIf (eTest (eOp (opEq false) (eVar 3) (eK (.int 7)))) (sRet (eTup (lCons (eK (.str "if")) (lCons (mBind (lCons (eVar 0) (lCons (eVar 1) (lCons (eOp opSub (eVar 2) (eK (.int 2))) lNil))) (callF 3 R)) (lCons (eVar 5) (lCons (eVar 6) lNil)))))) sNext)
    (sSeq (sSet 7 (eLst (lCons (eK (.str "plus")) (lCons (eK (.str "minus")) (lCons (eK (.str "times")) (lCons (eK (.str "over")) (lCons (eK (.str "rest")) (lCons (eK (.str "less")) (lCons (eK (.str "same")) (lCons (eK (.str "low")) (lCons (eK (.str "high")) (lCons (eK (.str "plus")) (lCons (eK (.str "low")) lNil)))))))))))))
    (sRet (eTup (lCons (eOp opIx (eVar 7) (mBind (lCons (eVar 0) (lCons (eK (.int 11)) lNil)) (callF 2 f__law_take))) (lCons (eVar 5) (lCons (eVar 6) lNil))))))))))
noncomputable def F__law_any_term (n : Nat) : DF := Nat.rec (fun _ _ => .stuck) (fun _ R => runF 8 (m__law_any_term R)) n
theorem F__law_any_term_succ (n : Nat) : F__law_any_term (n + 1) = runF 8 (m__law_any_term (F__law_any_term n)) := rfl
noncomputable def f__law_any_term : DF := F__law_any_term 8
theorem sc__law_any_term : FnScope N__law_any_term P__law_any_term (defScope s__law_any_term) := ⟨rfl, rfl, rfl, by decide +kernel, rfl, by decide +kernel, by decide +kernel⟩
theorem ok__law_any_term {P : Program} {w : World} {K : PySem.W.Frag} {mg : Str → Option Value} {base : Heap} {a : Addr} {fd : FuncData} (T : Txt K w.params mg) (F : Fun K "_law_any_term" "_law_any_term" s__law_any_term a fd) (hm : mg "_law_any_term" = some (.ref a)) (hb : Binds K fd P__law_any_term []) (C__law_take : Cal P w K mg base 2 "_law_take" P__law_take f__law_take) (C__law_any_worth : Cal P w K mg base 2 "_law_any_worth" P__law_any_worth f__law_any_worth) : FnG P w K mg base 10 a fd P__law_any_term (spM K mg 3 f__law_any_term) := by
  have key : ∀ n : Nat, FnG P w K mg base (2 + n) a fd P__law_any_term (spM K mg 3 (F__law_any_term n)) := by
    intro n
    induction n with
    | zero => exact FnG.zero
    | succ n ih =>
      have C__law_take := C__law_take.mono (Nat.le_add_right 2 n)
      have C__law_any_worth := C__law_any_worth.mono (Nat.le_add_right 2 n)
      have C__law_any_term : Cal P w K mg base (2 + n) "_law_any_term" P__law_any_term (F__law_any_term n) := Cal.of ih hm F hb
      refine Fun.dl (N := N__law_any_term) F sc__law_any_term fun cdv A outer s H E W as hr => ?_
      have Sc := sc__law_any_term
      have hu := hr.rm.units
      have hu65 := units65 hr.rm
      have hu1 := units1 hr.rm
      exact (qs_cons (qs_set (i := 3) Sc.nd rfl (by first | exact Or.inl rfl | exact Or.inr rfl) (px_callC C__law_take hr (by rfl) rfl rfl (takes_of rfl rfl rfl rfl) (px_cons (pd_var 0) (px_cons pd_int px_nil))))
    (qs_cons (qs_if (PW.pt (pw_orX (pt_cmpX (ox_lt rfl hu) (pd_var 2) pd_int (by rfl)) (pw_or1X (pt_cmpX (ox_lt rfl hu) (pd_var 3) pd_int (by rfl))))) (qs_cons (qs_if (pt_cmpX (ox_eq rfl hu) (px_callC C__law_take hr (by rfl) rfl rfl (takes_of rfl rfl rfl rfl) (px_cons (pd_var 0) (px_cons pd_int px_nil))) pd_int (by rfl)) (qs_one (qs_ret (px_callC C__law_any_worth hr (by rfl) rfl rfl (takes_of rfl rfl rfl rfl) (px_cons (pd_var 0) px_nil)))) qs_nil)
    (qs_cons (qs_set (i := 4) Sc.nd rfl (by first | exact Or.inl rfl | exact Or.inr rfl) (px_ix rfl (pd_var 1) (px_callC C__law_take hr (by rfl) rfl rfl (takes_of rfl rfl rfl rfl) (px_cons (pd_var 0) (px_cons (px_callB (cx_len rfl) (by rfl) T.n_len (by decide +kernel) (px_cons (pd_var 1) px_nil)) px_nil)))))
    (qs_one (qs_ret (px_ifExp (pt_cmpX (ox_eq rfl hu) (pd_var 4) (px_tup (px_cons pd_str px_nil)) (by rfl)) (px_tup (px_cons pd_str (px_cons (px_callC C__law_take hr (by rfl) rfl rfl (takes_of rfl rfl rfl rfl) (px_cons (pd_var 0) (px_cons pd_int px_nil))) px_nil))) (pd_var 4)))))) qs_nil)
    (qs_cons (qs_par (i := 5) (j := 6) rfl Sc.nd rfl rfl (by decide) rfl rfl (px_cons (px_callC C__law_any_term hr (by rfl) rfl rfl (takes_of rfl rfl rfl rfl) (px_cons (pd_var 0) (px_cons (pd_var 1) (px_cons (px_op ox_sub (pd_var 2) pd_int) px_nil)))) (px_cons (px_callC C__law_any_term hr (by rfl) rfl rfl (takes_of rfl rfl rfl rfl) (px_cons (pd_var 0) (px_cons (pd_var 1) (px_cons (px_op ox_sub (pd_var 2) pd_int) px_nil)))) px_nil)) rfl)
    (qs_cons (qs_if (pt_cmpX (ox_eq rfl hu) (pd_var 3) pd_int (by rfl)) (qs_one (qs_ret (px_tup (px_cons pd_str (px_cons (px_callC C__law_any_term hr (by rfl) rfl rfl (takes_of rfl rfl rfl rfl) (px_cons (pd_var 0) (px_cons (pd_var 1) (px_cons (px_op ox_sub (pd_var 2) pd_int) px_nil)))) (px_cons (pd_var 5) (px_cons (pd_var 6) px_nil))))))) qs_nil)
    (qs_cons (qs_set (i := 7) Sc.nd rfl (by first | exact Or.inl rfl | exact Or.inr rfl) (px_lst (px_cons pd_str (px_cons pd_str (px_cons pd_str (px_cons pd_str (px_cons pd_str (px_cons pd_str (px_cons pd_str (px_cons pd_str (px_cons pd_str (px_cons pd_str (px_cons pd_str px_nil)))))))))))))
    (qs_one (qs_ret (px_tup (px_cons (px_ix rfl (pd_var 7) (px_callC C__law_take hr (by rfl) rfl rfl (takes_of rfl rfl rfl rfl) (px_cons (pd_var 0) (px_cons pd_int px_nil)))) (px_cons (pd_var 5) (px_cons (pd_var 6) px_nil)))))))))))
  exact key 8
/-! _law_any_first -/
abbrev s__law_any_first : Stmt := topS 44
abbrev N__law_any_first : List Str := ["pool"]
abbrev P__law_any_first : List Str := ["pool"]
noncomputable def m__law_any_first : DM Fl := (sRet (mBind (lCons (eVar 0) (lCons (eLst (lCons (eTup (lCons (eK (.str "word")) lNil)) (lCons (eTup (lCons (eK (.str "word")) lNil)) (lCons (eTup (lCons (eK (.str "ties")) lNil)) lNil)))) (lCons (eOp opIx (eLst (lCons (eK (.int 0)) (lCons (eK (.int 1)) (lCons (eK (.int 2)) lNil)))) (mBind (lCons (eVar 0) (lCons (eK (.int 3)) lNil)) (callF 2 f__law_take))) lNil))) (callF 3 f__law_any_term)))
noncomputable def f__law_any_first : DF := runF 1 m__law_any_first
theorem sc__law_any_first : FnScope N__law_any_first P__law_any_first (defScope s__law_any_first) := ⟨rfl, rfl, rfl, by decide +kernel, rfl, by decide +kernel, by decide +kernel⟩
theorem ok__law_any_first {P : Program} {w : World} {K : PySem.W.Frag} {mg : Str → Option Value} {base : Heap} {a : Addr} {fd : FuncData} (T : Txt K w.params mg) (F : Fun K "_law_any_first" "_law_any_first" s__law_any_first a fd) (C__law_any_term : Cal P w K mg base 10 "_law_any_term" P__law_any_term f__law_any_term) (C__law_take : Cal P w K mg base 10 "_law_take" P__law_take f__law_take) : FnG P w K mg base 11 a fd P__law_any_first (spM K mg 1 f__law_any_first) := by
  refine Fun.dl (N := N__law_any_first) F sc__law_any_first fun cdv A outer s H E W as hr => ?_
  have Sc := sc__law_any_first
  have hu := hr.rm.units
  have hu65 := units65 hr.rm
  have hu1 := units1 hr.rm
  exact (qs_one (qs_ret (px_callC C__law_any_term hr (by rfl) rfl rfl (takes_of rfl rfl rfl rfl) (px_cons (pd_var 0) (px_cons (px_lst (px_cons (px_tup (px_cons pd_str px_nil)) (px_cons (px_tup (px_cons pd_str px_nil)) (px_cons (px_tup (px_cons pd_str px_nil)) px_nil)))) (px_cons (px_ix rfl (px_lst (px_cons pd_int (px_cons pd_int (px_cons pd_int px_nil)))) (px_callC C__law_take hr (by rfl) rfl rfl (takes_of rfl rfl rfl rfl) (px_cons (pd_var 0) (px_cons pd_int px_nil)))) px_nil))))))
/-! _law_any_next -/
abbrev s__law_any_next : Stmt := topS 45
abbrev N__law_any_next : List Str := ["pool", "heap"]
abbrev P__law_any_next : List Str := ["pool"]
noncomputable def m__law_any_next : DM Fl := (sSeq (sIf (eTest (eOp (opEq false) (mBind (lCons (eVar 0) (lCons (eK (.int 3)) lNil)) (callF 2 f__law_take)) (eK (.int 0)))) (sRet (mBind (lCons (eVar 0) (lCons (eLst (lCons (eTup (lCons (eK (.str "own")) lNil)) (lCons (eTup (lCons (eK (.str "own")) lNil)) (lCons (eTup (lCons (eK (.str "ties")) lNil)) lNil)))) (lCons (eK (.int 2)) lNil))) (callF 3 f__law_any_term))) sNext)
    (sSeq (sSet 1 (eOp opIx (eLst (lCons (eTup (lCons (eK (.str "sum")) lNil)) (lCons (eTup (lCons (eK (.str "least")) lNil)) (lCons (eTup (lCons (eK (.str "most")) lNil)) (lCons (eTup (lCons (eK (.str "many")) lNil)) lNil))))) (mBind (lCons (eVar 0) (lCons (eK (.int 4)) lNil)) (callF 2 f__law_take))))
    (sRet (mBind (lCons (eVar 0) (lCons (eLst (lCons (eVar 1) (lCons (eVar 1) (lCons (eTup (lCons (eK (.str "own")) lNil)) (lCons (eTup (lCons (eK (.str "sum")) lNil)) (lCons (eTup (lCons (eK (.str "ties")) lNil)) lNil)))))) (lCons (eOp opIx (eLst (lCons (eK (.int 0)) (lCons (eK (.int 1)) (lCons (eK (.int 2)) (lCons (eK (.int 3)) lNil))))) (mBind (lCons (eVar 0) (lCons (eK (.int 4)) lNil)) (callF 2 f__law_take))) lNil))) (callF 3 f__law_any_term)))))
noncomputable def f__law_any_next : DF := runF 2 m__law_any_next
theorem sc__law_any_next : FnScope N__law_any_next P__law_any_next (defScope s__law_any_next) := ⟨rfl, rfl, rfl, by decide +kernel, rfl, by decide +kernel, by decide +kernel⟩
theorem ok__law_any_next {P : Program} {w : World} {K : PySem.W.Frag} {mg : Str → Option Value} {base : Heap} {a : Addr} {fd : FuncData} (T : Txt K w.params mg) (F : Fun K "_law_any_next" "_law_any_next" s__law_any_next a fd) (C__law_take : Cal P w K mg base 10 "_law_take" P__law_take f__law_take) (C__law_any_term : Cal P w K mg base 10 "_law_any_term" P__law_any_term f__law_any_term) : FnG P w K mg base 11 a fd P__law_any_next (spM K mg 1 f__law_any_next) := by
  refine Fun.dl (N := N__law_any_next) F sc__law_any_next fun cdv A outer s H E W as hr => ?_
  have Sc := sc__law_any_next
  have hu := hr.rm.units
  have hu65 := units65 hr.rm
  have hu1 := units1 hr.rm
  exact (qs_cons (qs_if (pt_cmpX (ox_eq rfl hu) (px_callC C__law_take hr (by rfl) rfl rfl (takes_of rfl rfl rfl rfl) (px_cons (pd_var 0) (px_cons pd_int px_nil))) pd_int (by rfl)) (qs_one (qs_ret (px_callC C__law_any_term hr (by rfl) rfl rfl (takes_of rfl rfl rfl rfl) (px_cons (pd_var 0) (px_cons (px_lst (px_cons (px_tup (px_cons pd_str px_nil)) (px_cons (px_tup (px_cons pd_str px_nil)) (px_cons (px_tup (px_cons pd_str px_nil)) px_nil)))) (px_cons pd_int px_nil)))))) qs_nil)
    (qs_cons (qs_set (i := 1) Sc.nd rfl (by first | exact Or.inl rfl | exact Or.inr rfl) (px_ix rfl (px_lst (px_cons (px_tup (px_cons pd_str px_nil)) (px_cons (px_tup (px_cons pd_str px_nil)) (px_cons (px_tup (px_cons pd_str px_nil)) (px_cons (px_tup (px_cons pd_str px_nil)) px_nil))))) (px_callC C__law_take hr (by rfl) rfl rfl (takes_of rfl rfl rfl rfl) (px_cons (pd_var 0) (px_cons pd_int px_nil)))))
    (qs_one (qs_ret (px_callC C__law_any_term hr (by rfl) rfl rfl (takes_of rfl rfl rfl rfl) (px_cons (pd_var 0) (px_cons (px_lst (px_cons (pd_var 1) (px_cons (pd_var 1) (px_cons (px_tup (px_cons pd_str px_nil)) (px_cons (px_tup (px_cons pd_str px_nil)) (px_cons (px_tup (px_cons pd_str px_nil)) px_nil)))))) (px_cons (px_ix rfl (px_lst (px_cons pd_int (px_cons pd_int (px_cons pd_int (px_cons pd_int px_nil))))) (px_callC C__law_take hr (by rfl) rfl rfl (takes_of rfl rfl rfl rfl) (px_cons (pd_var 0) (px_cons pd_int px_nil)))) px_nil))))))))
/-! _law_sized -/
abbrev s__law_sized : Stmt := topS 49
abbrev N__law_sized : List Str := ["pool", "leaves", "many", "leaf", "op", "one", "left"]
abbrev P__law_sized : List Str := ["pool", "leaves", "many"]
noncomputable def m__law_sized (R : DF) : DM Fl := (sSeq (sIf (eTest (eOp opLt (eVar 2) (eK (.int 3)))) (sSeq (sSet 3 (eOp opIx (eVar 1) (mBind (lCons (eVar 0) (lCons (eCall fLen (lCons (eVar 1) lNil)) lNil)) (callF 2 f__law_take))))
    (sRet (eIf (eTest (eOp (opEq false) (eVar 3) (eTup (lCons (eK (.str "many")) lNil)))) (eTup (lCons (eK (.str "many")) (lCons (mBind (lCons (eVar 0) (lCons (eK (.int 997)) lNil)) (callF 2 f__law_take)) lNil))) (eVar 3)))) sNext)
    (sSeq (sSet 4 (eOp opIx (eLst (lCons (eK (.str "plus")) (lCons (eK (.str "minus")) (lCons (eK (.str "times")) (lCons (eK (.str "over")) (lCons (eK (.str "rest")) (lCons (eK (.str "less")) (lCons (eK (.str "same")) (lCons (eK (.str "low")) (lCons (eK (.str "high")) lNil)))))))))) (mBind (lCons (eVar 0) (lCons (eK (.int 9)) lNil)) (callF 2 f__law_take))))
    (sSeq (sIf (eTest (eOp (opEq false) (eOp opMod (eVar 2) (eK (.int 2))) (eK (.int 1)))) (sSeq (sSet 5 (eOp opOr (eOp opDiv (eOp opSub (eVar 2) (eK (.int 1))) (eK (.int 2))) (eK (.int 1))))
    (sRet (eTup (lCons (eVar 4) (lCons (mBind (lCons (eVar 0) (lCons (eVar 1) (lCons (eVar 5) lNil))) (callF 3 R)) (lCons (mBind (lCons (eVar 0) (lCons (eVar 1) (lCons (eOp opSub (eOp opSub (eVar 2) (eK (.int 1))) (eVar 5)) lNil))) (callF 3 R)) lNil)))))) sNext)
    (sSeq (sSet 5 (eOp opOr (eOp opDiv (eOp opSub (eVar 2) (eK (.int 1))) (eK (.int 3))) (eK (.int 1))))
    (sSeq (sSet 6 (mBind (lCons (eVar 0) (lCons (eVar 1) (lCons (eOp opSub (eOp opSub (eVar 2) (eK (.int 1))) (eOp opMul2 (eK (.int 2)) (eVar 5))) lNil))) (callF 3 R)))
    (sRet (eTup (lCons (eK (.str "if")) (lCons (eVar 6) (lCons (mBind (lCons (eVar 0) (lCons (eVar 1) (lCons (eVar 5) lNil))) (callF 3 R)) (lCons (mBind (lCons (eVar 0) (lCons (eVar 1) (lCons (eVar 5) lNil))) (callF 3 R)) lNil)))))))))))
noncomputable def F__law_sized (n : Nat) : DF := Nat.rec (fun _ _ => .stuck) (fun _ R => runF 7 (m__law_sized R)) n
theorem F__law_sized_succ (n : Nat) : F__law_sized (n + 1) = runF 7 (m__law_sized (F__law_sized n)) := rfl
noncomputable def f__law_sized : DF := F__law_sized 8
theorem sc__law_sized : FnScope N__law_sized P__law_sized (defScope s__law_sized) := ⟨rfl, rfl, rfl, by decide +kernel, rfl, by decide +kernel, by decide +kernel⟩
theorem ok__law_sized {P : Program} {w : World} {K : PySem.W.Frag} {mg : Str → Option Value} {base : Heap} {a : Addr} {fd : FuncData} (T : Txt K w.params mg) (F : Fun K "_law_sized" "_law_sized" s__law_sized a fd) (hm : mg "_law_sized" = some (.ref a)) (hb : Binds K fd P__law_sized []) (C__law_take : Cal P w K mg base 1 "_law_take" P__law_take f__law_take) : FnG P w K mg base 9 a fd P__law_sized (spM K mg 3 f__law_sized) := by
  have key : ∀ n : Nat, FnG P w K mg base (1 + n) a fd P__law_sized (spM K mg 3 (F__law_sized n)) := by
    intro n
    induction n with
    | zero => exact FnG.zero
    | succ n ih =>
      have C__law_take := C__law_take.mono (Nat.le_add_right 1 n)
      have C__law_sized : Cal P w K mg base (1 + n) "_law_sized" P__law_sized (F__law_sized n) := Cal.of ih hm F hb
      refine Fun.dl (N := N__law_sized) F sc__law_sized fun cdv A outer s H E W as hr => ?_
      have Sc := sc__law_sized
      have hu := hr.rm.units
      have hu65 := units65 hr.rm
      have hu1 := units1 hr.rm
      exact (qs_cons (qs_if (pt_cmpX (ox_lt rfl hu) (pd_var 2) pd_int (by rfl)) (qs_cons (qs_set (i := 3) Sc.nd rfl (by first | exact Or.inl rfl | exact Or.inr rfl) (px_ix rfl (pd_var 1) (px_callC C__law_take hr (by rfl) rfl rfl (takes_of rfl rfl rfl rfl) (px_cons (pd_var 0) (px_cons (px_callB (cx_len rfl) (by rfl) T.n_len (by decide +kernel) (px_cons (pd_var 1) px_nil)) px_nil)))))
    (qs_one (qs_ret (px_ifExp (pt_cmpX (ox_eq rfl hu) (pd_var 3) (px_tup (px_cons pd_str px_nil)) (by rfl)) (px_tup (px_cons pd_str (px_cons (px_callC C__law_take hr (by rfl) rfl rfl (takes_of rfl rfl rfl rfl) (px_cons (pd_var 0) (px_cons pd_int px_nil))) px_nil))) (pd_var 3))))) qs_nil)
    (qs_cons (qs_set (i := 4) Sc.nd rfl (by first | exact Or.inl rfl | exact Or.inr rfl) (px_ix rfl (px_lst (px_cons pd_str (px_cons pd_str (px_cons pd_str (px_cons pd_str (px_cons pd_str (px_cons pd_str (px_cons pd_str (px_cons pd_str (px_cons pd_str px_nil)))))))))) (px_callC C__law_take hr (by rfl) rfl rfl (takes_of rfl rfl rfl rfl) (px_cons (pd_var 0) (px_cons pd_int px_nil)))))
    (qs_cons (qs_if (pt_cmpX (ox_eq rfl hu) (px_op ox_mod (pd_var 2) pd_int) pd_int (by rfl)) (qs_cons (qs_set (i := 5) Sc.nd rfl (by first | exact Or.inl rfl | exact Or.inr rfl) (px_op ox_or (px_op ox_div (px_op ox_sub (pd_var 2) pd_int) pd_int) pd_int))
    (qs_one (qs_ret (px_tup (px_cons (pd_var 4) (px_cons (px_callC C__law_sized hr (by rfl) rfl rfl (takes_of rfl rfl rfl rfl) (px_cons (pd_var 0) (px_cons (pd_var 1) (px_cons (pd_var 5) px_nil)))) (px_cons (px_callC C__law_sized hr (by rfl) rfl rfl (takes_of rfl rfl rfl rfl) (px_cons (pd_var 0) (px_cons (pd_var 1) (px_cons (px_op ox_sub (px_op ox_sub (pd_var 2) pd_int) (pd_var 5)) px_nil)))) px_nil))))))) qs_nil)
    (qs_cons (qs_set (i := 5) Sc.nd rfl (by first | exact Or.inl rfl | exact Or.inr rfl) (px_op ox_or (px_op ox_div (px_op ox_sub (pd_var 2) pd_int) pd_int) pd_int))
    (qs_cons (qs_set (i := 6) Sc.nd rfl (by first | exact Or.inl rfl | exact Or.inr rfl) (px_callC C__law_sized hr (by rfl) rfl rfl (takes_of rfl rfl rfl rfl) (px_cons (pd_var 0) (px_cons (pd_var 1) (px_cons (px_op ox_sub (px_op ox_sub (pd_var 2) pd_int) (px_op (ox_mul2 rfl) pd_int (pd_var 5))) px_nil)))))
    (qs_one (qs_ret (px_tup (px_cons pd_str (px_cons (pd_var 6) (px_cons (px_callC C__law_sized hr (by rfl) rfl rfl (takes_of rfl rfl rfl rfl) (px_cons (pd_var 0) (px_cons (pd_var 1) (px_cons (pd_var 5) px_nil)))) (px_cons (px_callC C__law_sized hr (by rfl) rfl rfl (takes_of rfl rfl rfl rfl) (px_cons (pd_var 0) (px_cons (pd_var 1) (px_cons (pd_var 5) px_nil)))) px_nil))))))))))))
  exact key 8
/-! _law_leaves -/
abbrev s__law_leaves : Stmt := topS 48
abbrev N__law_leaves : List Str := ["kind"]
abbrev P__law_leaves : List Str := ["kind"]
noncomputable def m__law_leaves : DM Fl := (sSeq (sIf (eTest (eOp (opEq false) (eVar 0) (eK (.int 0)))) (sRet (eLst (lCons (eTup (lCons (eK (.str "word")) lNil)) (lCons (eTup (lCons (eK (.str "ties")) lNil)) lNil)))) sNext)
    (sRet (eLst (lCons (eTup (lCons (eK (.str "own")) lNil)) (lCons (eTup (lCons (eK (.str "ties")) lNil)) (lCons (eTup (lCons (eK (.str "sum")) lNil)) (lCons (eTup (lCons (eK (.str "least")) lNil)) (lCons (eTup (lCons (eK (.str "most")) lNil)) (lCons (eTup (lCons (eK (.str "many")) lNil)) lNil)))))))))
noncomputable def f__law_leaves : DF := runF 1 m__law_leaves
theorem sc__law_leaves : FnScope N__law_leaves P__law_leaves (defScope s__law_leaves) := ⟨rfl, rfl, rfl, by decide +kernel, rfl, by decide +kernel, by decide +kernel⟩
theorem ok__law_leaves {P : Program} {w : World} {K : PySem.W.Frag} {mg : Str → Option Value} {base : Heap} {a : Addr} {fd : FuncData} (T : Txt K w.params mg) (F : Fun K "_law_leaves" "_law_leaves" s__law_leaves a fd) : FnG P w K mg base 1 a fd P__law_leaves (spM K mg 1 f__law_leaves) := by
  refine Fun.dl (N := N__law_leaves) F sc__law_leaves fun cdv A outer s H E W as hr => ?_
  have Sc := sc__law_leaves
  have hu := hr.rm.units
  have hu65 := units65 hr.rm
  have hu1 := units1 hr.rm
  exact (qs_cons (qs_if (pt_cmpX (ox_eq rfl hu) (pd_var 0) pd_int (by rfl)) (qs_one (qs_ret (px_lst (px_cons (px_tup (px_cons pd_str px_nil)) (px_cons (px_tup (px_cons pd_str px_nil)) px_nil))))) qs_nil)
    (qs_one (qs_ret (px_lst (px_cons (px_tup (px_cons pd_str px_nil)) (px_cons (px_tup (px_cons pd_str px_nil)) (px_cons (px_tup (px_cons pd_str px_nil)) (px_cons (px_tup (px_cons pd_str px_nil)) (px_cons (px_tup (px_cons pd_str px_nil)) (px_cons (px_tup (px_cons pd_str px_nil)) px_nil))))))))))
/-! _law_made -/
abbrev s__law_made : Stmt := topS 47
abbrev N__law_made : List Str := ["op", "one", "other"]
abbrev P__law_made : List Str := ["op", "one", "other"]
noncomputable def m__law_made : DM Fl := (sSeq (sIf (bAnd (eTest (eOp (opIn false) (eVar 0) (eTup (lCons (eK (.str "over")) (lCons (eK (.str "rest")) lNil))))) (eTest (eOp (opEq false) (eVar 2) (eK (.int 0))))) (sRet (eK (.int 0))) sNext)
    (sSeq (sIf (eTest (eOp (opIn false) (eVar 0) (eTup (lCons (eK (.str "over")) (lCons (eK (.str "rest")) lNil))))) (sRet (eIf (eTest (eOp (opEq false) (eVar 0) (eK (.str "over")))) (eOp opDiv (eVar 1) (eVar 2)) (eOp opMod (eVar 1) (eVar 2)))) sNext)
    (sSeq (sIf (eTest (eOp (opIn false) (eVar 0) (eTup (lCons (eK (.str "less")) (lCons (eK (.str "same")) lNil))))) (sRet (eIf (eTest (eOp (opEq false) (eVar 0) (eK (.str "less")))) (eCall fInt (lCons (eOp opLt (eVar 1) (eVar 2)) lNil)) (eCall fInt (lCons (eOp (opEq false) (eVar 1) (eVar 2)) lNil)))) sNext)
    (sSeq (sIf (eTest (eOp (opIn false) (eVar 0) (eTup (lCons (eK (.str "low")) (lCons (eK (.str "high")) lNil))))) (sRet (eIf (eTest (eOp (opEq false) (eVar 0) (eK (.str "low")))) (eCall fMin2 (lCons (eVar 1) (lCons (eVar 2) lNil))) (eCall fMax2 (lCons (eVar 1) (lCons (eVar 2) lNil))))) sNext)
    (sRet (eOp opMod (eDispIx [("plus", .add), ("minus", .sub), ("times", .mul)] 1 2 0) (eK (.int 997))))))))
noncomputable def f__law_made : DF := runF 3 m__law_made
theorem sc__law_made : FnScope N__law_made P__law_made (defScope s__law_made) := ⟨rfl, rfl, rfl, by decide +kernel, rfl, by decide +kernel, by decide +kernel⟩
theorem ok__law_made {P : Program} {w : World} {K : PySem.W.Frag} {mg : Str → Option Value} {base : Heap} {a : Addr} {fd : FuncData} (T : Txt K w.params mg) (F : Fun K "_law_made" "_law_made" s__law_made a fd) : FnG P w K mg base 1 a fd P__law_made (spM K mg 3 f__law_made) := by
  refine Fun.dl (N := N__law_made) F sc__law_made fun cdv A outer s H E W as hr => ?_
  have Sc := sc__law_made
  have hu := hr.rm.units
  have hu65 := units65 hr.rm
  have hu1 := units1 hr.rm
  exact (qs_cons (qs_if (PW.pt (pw_andX (pt_cmpX (ox_in rfl hu65) (pd_var 0) (px_tup (px_cons pd_str (px_cons pd_str px_nil))) (by rfl)) (pw_and1X (pt_cmpX (ox_eq rfl hu) (pd_var 2) pd_int (by rfl))))) (qs_one (qs_ret pd_int)) qs_nil)
    (qs_cons (qs_if (pt_cmpX (ox_in rfl hu65) (pd_var 0) (px_tup (px_cons pd_str (px_cons pd_str px_nil))) (by rfl)) (qs_one (qs_ret (px_ifExp (pt_cmpX (ox_eq rfl hu) (pd_var 0) pd_str (by rfl)) (px_op ox_div (pd_var 1) (pd_var 2)) (px_op ox_mod (pd_var 1) (pd_var 2))))) qs_nil)
    (qs_cons (qs_if (pt_cmpX (ox_in rfl hu65) (pd_var 0) (px_tup (px_cons pd_str (px_cons pd_str px_nil))) (by rfl)) (qs_one (qs_ret (px_ifExp (pt_cmpX (ox_eq rfl hu) (pd_var 0) pd_str (by rfl)) (px_callTy cx_int (by rfl) T.n_int (by decide +kernel) (px_cons (px_cmp (ox_lt rfl hu) (pd_var 1) (pd_var 2) (by rfl)) px_nil)) (px_callTy cx_int (by rfl) T.n_int (by decide +kernel) (px_cons (px_cmp (ox_eq rfl hu) (pd_var 1) (pd_var 2) (by rfl)) px_nil))))) qs_nil)
    (qs_cons (qs_if (pt_cmpX (ox_in rfl hu65) (pd_var 0) (px_tup (px_cons pd_str (px_cons pd_str px_nil))) (by rfl)) (qs_one (qs_ret (px_ifExp (pt_cmpX (ox_eq rfl hu) (pd_var 0) pd_str (by rfl)) (px_callB (cx_min2 rfl) (by rfl) T.n_min (by decide +kernel) (px_cons (pd_var 1) (px_cons (pd_var 2) px_nil))) (px_callB (cx_max2 rfl) (by rfl) T.n_max (by decide +kernel) (px_cons (pd_var 1) (px_cons (pd_var 2) px_nil)))))) qs_nil)
    (qs_one (qs_ret (px_op ox_mod (px_dispIx (kos := [("plus", .add), ("minus", .sub), ("times", .mul)]) (i := 1) (j := 2) (o := 0) hu1 (pps_cons pe_str (pe_op (io_ok .add) (pe_var (i := 1) rfl (by first | exact Or.inl rfl | exact Or.inr (Or.inl rfl) | exact Or.inr (Or.inr rfl))) (pe_var (i := 2) rfl (by first | exact Or.inl rfl | exact Or.inr (Or.inl rfl) | exact Or.inr (Or.inr rfl)))) (pps_cons pe_str (pe_op (io_ok .sub) (pe_var (i := 1) rfl (by first | exact Or.inl rfl | exact Or.inr (Or.inl rfl) | exact Or.inr (Or.inr rfl))) (pe_var (i := 2) rfl (by first | exact Or.inl rfl | exact Or.inr (Or.inl rfl) | exact Or.inr (Or.inr rfl)))) (pps_cons pe_str (pe_op (io_ok .mul) (pe_var (i := 1) rfl (by first | exact Or.inl rfl | exact Or.inr (Or.inl rfl) | exact Or.inr (Or.inr rfl))) (pe_var (i := 2) rfl (by first | exact Or.inl rfl | exact Or.inr (Or.inl rfl) | exact Or.inr (Or.inr rfl)))) pps_nil))) rfl rfl (by intro h; cases h) (by decide) (by decide) (by decide) rfl (by first | exact Or.inl rfl | exact Or.inr (Or.inl rfl) | exact Or.inr (Or.inr rfl)) (by decide) (by decide) (by intro _ _; rfl)) pd_int)))))))
/-! _law_value -/
abbrev s__law_value : Stmt := topS 46
abbrev N__law_value : List Str := ["term", "worth", "heap", "word", "one", "other"]
abbrev P__law_value : List Str := ["term", "worth", "heap"]
noncomputable def m__law_value (R : DF) : DM Fl := (sSeq (sIf (eTru (eIsI .int (eVar 0))) (sRet (eVar 0)) sNext)
    (sSeq (sSet 3 (eOp opIx (eVar 0) (eK (.int 0))))
    (sSeq (sIf (eTest (eOp (opIn false) (eVar 3) (eTup (lCons (eK (.str "word")) (lCons (eK (.str "own")) lNil))))) (sRet (eVar 1)) sNext)
    (sSeq (sIf (eTest (eOp (opEq false) (eVar 3) (eK (.str "ties")))) (sRet (eCall fLen (lCons (eVar 2) lNil))) sNext)
    (sSeq (sIf (eTest (eOp (opEq false) (eVar 3) (eK (.str "sum")))) (sRet (eOp opMod (eCall fSum1 (lCons (eVar 2) lNil)) (eK (.int 997)))) sNext)
    (sSeq (sIf (eTest (eOp (opIn false) (eVar 3) (eTup (lCons (eK (.str "least")) (lCons (eK (.str "most")) lNil))))) (sRet (eIf (eTest (eOp (opEq false) (eVar 2) (eLst lNil))) (eK (.int 0)) (eIf (eTest (eOp (opEq false) (eVar 3) (eK (.str "least")))) (eCall fMin1Q (lCons (eVar 2) lNil)) (eCall fMax1Q (lCons (eVar 2) lNil))))) sNext)
    (sSeq (sIf (eTest (eOp (opEq false) (eVar 3) (eK (.str "many")))) (sRet (eCntL (eVar 2) (lCons (eOp opIx (eVar 0) (eK (.int 1))) lNil))) sNext)
    (sSeq (sIf (eTest (eOp (opEq false) (eVar 3) (eK (.str "if")))) (sRet (mBind (lCons (eOp opIx (eVar 0) (eOp opAdd (eK (.int 2)) (eCall fInt (lCons (eOp (opEq false) (mBind (lCons (eOp opIx (eVar 0) (eK (.int 1))) (lCons (eVar 1) (lCons (eVar 2) lNil))) (callF 3 R)) (eK (.int 0))) lNil)))) (lCons (eVar 1) (lCons (eVar 2) lNil))) (callF 3 R))) sNext)
    (sSeq (sPar 4 5 (lCons (mBind (lCons (eOp opIx (eVar 0) (eK (.int 1))) (lCons (eVar 1) (lCons (eVar 2) lNil))) (callF 3 R)) (lCons (mBind (lCons (eOp opIx (eVar 0) (eK (.int 2))) (lCons (eVar 1) (lCons (eVar 2) lNil))) (callF 3 R)) lNil)))
    (sRet (mBind (lCons (eVar 3) (lCons (eVar 4) (lCons (eVar 5) lNil))) (callF 3 f__law_made))))))))))))
noncomputable def F__law_value (n : Nat) : DF := Nat.rec (fun _ _ => .stuck) (fun _ R => runF 6 (m__law_value R)) n
theorem F__law_value_succ (n : Nat) : F__law_value (n + 1) = runF 6 (m__law_value (F__law_value n)) := rfl
noncomputable def f__law_value : DF := F__law_value 8
theorem sc__law_value : FnScope N__law_value P__law_value (defScope s__law_value) := ⟨rfl, rfl, rfl, by decide +kernel, rfl, by decide +kernel, by decide +kernel⟩
theorem ok__law_value {P : Program} {w : World} {K : PySem.W.Frag} {mg : Str → Option Value} {base : Heap} {a : Addr} {fd : FuncData} (T : Txt K w.params mg) (F : Fun K "_law_value" "_law_value" s__law_value a fd) (hm : mg "_law_value" = some (.ref a)) (hb : Binds K fd P__law_value []) (C__law_made : Cal P w K mg base 1 "_law_made" P__law_made f__law_made) : FnG P w K mg base 9 a fd P__law_value (spM K mg 3 f__law_value) := by
  have key : ∀ n : Nat, FnG P w K mg base (1 + n) a fd P__law_value (spM K mg 3 (F__law_value n)) := by
    intro n
    induction n with
    | zero => exact FnG.zero
    | succ n ih =>
      have C__law_made := C__law_made.mono (Nat.le_add_right 1 n)
      have C__law_value : Cal P w K mg base (1 + n) "_law_value" P__law_value (F__law_value n) := Cal.of ih hm F hb
      refine Fun.dl (N := N__law_value) F sc__law_value fun cdv A outer s H E W as hr => ?_
      have Sc := sc__law_value
      have hu := hr.rm.units
      have hu65 := units65 hr.rm
      have hu1 := units1 hr.rm
      exact (qs_cons (qs_if (pt_tru rfl (px_isi rfl .int (by decide +kernel) (by rfl) T.n_isinstance (by rfl) T.n_int (pd_var 0))) (qs_one (qs_ret (pd_var 0))) qs_nil)
    (qs_cons (qs_set (i := 3) Sc.nd rfl (by first | exact Or.inl rfl | exact Or.inr rfl) (px_ix rfl (pd_var 0) pd_int))
    (qs_cons (qs_if (pt_cmpX (ox_in rfl hu65) (pd_var 3) (px_tup (px_cons pd_str (px_cons pd_str px_nil))) (by rfl)) (qs_one (qs_ret (pd_var 1))) qs_nil)
    (qs_cons (qs_if (pt_cmpX (ox_eq rfl hu) (pd_var 3) pd_str (by rfl)) (qs_one (qs_ret (px_callB (cx_len rfl) (by rfl) T.n_len (by decide +kernel) (px_cons (pd_var 2) px_nil)))) qs_nil)
    (qs_cons (qs_if (pt_cmpX (ox_eq rfl hu) (pd_var 3) pd_str (by rfl)) (qs_one (qs_ret (px_op ox_mod (px_callB (cx_sum1 rfl) (by rfl) T.n_sum (by decide +kernel) (px_cons (pd_var 2) px_nil)) pd_int))) qs_nil)
    (qs_cons (qs_if (pt_cmpX (ox_in rfl hu65) (pd_var 3) (px_tup (px_cons pd_str (px_cons pd_str px_nil))) (by rfl)) (qs_one (qs_ret (px_ifExp (pt_cmpX (ox_eq rfl hu) (pd_var 2) (px_lst px_nil) (by rfl)) pd_int (px_ifExp (pt_cmpX (ox_eq rfl hu) (pd_var 3) pd_str (by rfl)) (px_callB (cx_min1Q rfl rfl hu) (by rfl) T.n_min (by decide +kernel) (px_cons (pd_var 2) px_nil)) (px_callB (cx_max1Q rfl rfl hu) (by rfl) T.n_max (by decide +kernel) (px_cons (pd_var 2) px_nil)))))) qs_nil)
    (qs_cons (qs_if (pt_cmpX (ox_eq rfl hu) (pd_var 3) pd_str (by rfl)) (qs_one (qs_ret (px_cntL rfl hu (pd_var 2) (px_cons (px_ix rfl (pd_var 0) pd_int) px_nil)))) qs_nil)
    (qs_cons (qs_if (pt_cmpX (ox_eq rfl hu) (pd_var 3) pd_str (by rfl)) (qs_one (qs_ret (px_callC C__law_value hr (by rfl) rfl rfl (takes_of rfl rfl rfl rfl) (px_cons (px_ix rfl (pd_var 0) (px_op (ox_add rfl) pd_int (px_callTy cx_int (by rfl) T.n_int (by decide +kernel) (px_cons (px_cmp (ox_eq rfl hu) (px_callC C__law_value hr (by rfl) rfl rfl (takes_of rfl rfl rfl rfl) (px_cons (px_ix rfl (pd_var 0) pd_int) (px_cons (pd_var 1) (px_cons (pd_var 2) px_nil)))) pd_int (by rfl)) px_nil)))) (px_cons (pd_var 1) (px_cons (pd_var 2) px_nil)))))) qs_nil)
    (qs_cons (qs_par (i := 4) (j := 5) rfl Sc.nd rfl rfl (by decide) rfl rfl (px_cons (px_callC C__law_value hr (by rfl) rfl rfl (takes_of rfl rfl rfl rfl) (px_cons (px_ix rfl (pd_var 0) pd_int) (px_cons (pd_var 1) (px_cons (pd_var 2) px_nil)))) (px_cons (px_callC C__law_value hr (by rfl) rfl rfl (takes_of rfl rfl rfl rfl) (px_cons (px_ix rfl (pd_var 0) pd_int) (px_cons (pd_var 1) (px_cons (pd_var 2) px_nil)))) px_nil)) rfl)
    (qs_one (qs_ret (px_callC C__law_made hr (by rfl) rfl rfl (takes_of rfl rfl rfl rfl) (px_cons (pd_var 3) (px_cons (pd_var 4) (px_cons (pd_var 5) px_nil)))))))))))))))
  exact key 8
/-! is_whole -/
abbrev s_is_whole : Stmt := topS 7
abbrev N_is_whole : List Str := ["thing"]
abbrev P_is_whole : List Str := ["thing"]
noncomputable def m_is_whole : DM Fl := (sRet (eAnd (eIsI .int (eVar 0)) (eNot (eIsI .bool (eVar 0)))))
noncomputable def f_is_whole : DF := runF 1 m_is_whole
theorem sc_is_whole : FnScope N_is_whole P_is_whole (defScope s_is_whole) := ⟨rfl, rfl, rfl, by decide +kernel, rfl, by decide +kernel, by decide +kernel⟩
theorem ok_is_whole {P : Program} {w : World} {K : PySem.W.Frag} {mg : Str → Option Value} {base : Heap} {a : Addr} {fd : FuncData} (T : Txt K w.params mg) (F : Fun K "is_whole" "is_whole" s_is_whole a fd) : FnG P w K mg base 1 a fd P_is_whole (spM K mg 1 f_is_whole) := by
  refine Fun.dl (N := N_is_whole) F sc_is_whole fun cdv A outer s H E W as hr => ?_
  have Sc := sc_is_whole
  have hu := hr.rm.units
  have hu65 := units65 hr.rm
  have hu1 := units1 hr.rm
  exact (qs_one (qs_ret (px_and rfl (px_isi rfl .int (by decide +kernel) (by rfl) T.n_isinstance (by rfl) T.n_int (pd_var 0)) (px_one (px_not rfl (px_isi rfl .bool (by decide +kernel) (by rfl) T.n_isinstance (by rfl) T.n_bool (pd_var 0)))))))
/-! is_below -/
abbrev s_is_below : Stmt := topS 8
abbrev N_is_below : List Str := ["thing", "many"]
abbrev P_is_below : List Str := ["thing", "many"]
noncomputable def m_is_below : DM Fl := (sRet (eAnd (mBind (lCons (eVar 0) lNil) (callF 1 f_is_whole)) (eChain (opCmpI fun i j => decide (i ≤ j)) opLt (eK (.int 0)) (eVar 0) (eVar 1))))
noncomputable def f_is_below : DF := runF 2 m_is_below
theorem sc_is_below : FnScope N_is_below P_is_below (defScope s_is_below) := ⟨rfl, rfl, rfl, by decide +kernel, rfl, by decide +kernel, by decide +kernel⟩
theorem ok_is_below {P : Program} {w : World} {K : PySem.W.Frag} {mg : Str → Option Value} {base : Heap} {a : Addr} {fd : FuncData} (T : Txt K w.params mg) (F : Fun K "is_below" "is_below" s_is_below a fd) (C_is_whole : Cal P w K mg base 1 "is_whole" P_is_whole f_is_whole) : FnG P w K mg base 2 a fd P_is_below (spM K mg 2 f_is_below) := by
  refine Fun.dl (N := N_is_below) F sc_is_below fun cdv A outer s H E W as hr => ?_
  have Sc := sc_is_below
  have hu := hr.rm.units
  have hu65 := units65 hr.rm
  have hu1 := units1 hr.rm
  exact (qs_one (qs_ret (px_and rfl (px_callC C_is_whole hr (by rfl) rfl rfl (takes_of rfl rfl rfl rfl) (px_cons (pd_var 0) px_nil)) (px_one (px_chain ox_le (ox_lt rfl hu) pd_int (pd_var 0) (pd_var 1))))))
/-! is_worth -/
abbrev s_is_worth : Stmt := topS 29
abbrev N_is_worth : List Str := ["thing"]
abbrev P_is_worth : List Str := ["thing"]
noncomputable def m_is_worth : DM Fl := (sRet (mBind (lCons (eVar 0) (lCons (eK (.int 997)) lNil)) (callF 2 f_is_below)))
noncomputable def f_is_worth : DF := runF 1 m_is_worth
theorem sc_is_worth : FnScope N_is_worth P_is_worth (defScope s_is_worth) := ⟨rfl, rfl, rfl, by decide +kernel, rfl, by decide +kernel, by decide +kernel⟩
theorem ok_is_worth {P : Program} {w : World} {K : PySem.W.Frag} {mg : Str → Option Value} {base : Heap} {a : Addr} {fd : FuncData} (T : Txt K w.params mg) (F : Fun K "is_worth" "is_worth" s_is_worth a fd) (C_is_below : Cal P w K mg base 2 "is_below" P_is_below f_is_below) : FnG P w K mg base 3 a fd P_is_worth (spM K mg 1 f_is_worth) := by
  refine Fun.dl (N := N_is_worth) F sc_is_worth fun cdv A outer s H E W as hr => ?_
  have Sc := sc_is_worth
  have hu := hr.rm.units
  have hu65 := units65 hr.rm
  have hu1 := units1 hr.rm
  exact (qs_one (qs_ret (px_callC C_is_below hr (by rfl) rfl rfl (takes_of rfl rfl rfl rfl) (px_cons (pd_var 0) (px_cons (pd_globI (by rfl) T.c_WORTHS) px_nil)))))
/-! size_of_leaf -/
abbrev s_size_of_leaf : Stmt := topS 30
abbrev N_size_of_leaf : List Str := ["word", "parts", "leaves"]
abbrev P_size_of_leaf : List Str := ["word", "parts", "leaves"]
noncomputable def m_size_of_leaf : DM Fl := (sSeq (sIf (eTest (eOp (opEq false) (eVar 0) (eK (.str "many")))) (sRet (eIf (bAnd (eTest (eOp (opIn false) (eOp opIx (eK (.pd (PyData.tuple (List.map PyData.str ["sum", "least", "most"])))) (eK (.int 0))) (eVar 2))) (bAnd (eTest (eOp (opEq false) (eCall fLen (lCons (eVar 1) lNil)) (eK (.int 1)))) (eTru (mBind (lCons (eOp opIx (eVar 1) (eK (.int 0))) lNil) (callF 1 f_is_worth))))) (eK (.int 1)) (eK .non))) sNext)
    (sRet (eIf (bAnd (eTest (eOp (opIn false) (eVar 0) (eVar 2))) (eTest (eOp (opEq false) (eVar 1) (eLst lNil)))) (eK (.int 1)) (eK .non))))
noncomputable def f_size_of_leaf : DF := runF 3 m_size_of_leaf
theorem sc_size_of_leaf : FnScope N_size_of_leaf P_size_of_leaf (defScope s_size_of_leaf) := ⟨rfl, rfl, rfl, by decide +kernel, rfl, by decide +kernel, by decide +kernel⟩
theorem ok_size_of_leaf {P : Program} {w : World} {K : PySem.W.Frag} {mg : Str → Option Value} {base : Heap} {a : Addr} {fd : FuncData} (T : Txt K w.params mg) (F : Fun K "size_of_leaf" "size_of_leaf" s_size_of_leaf a fd) (C_is_worth : Cal P w K mg base 3 "is_worth" P_is_worth f_is_worth) : FnG P w K mg base 4 a fd P_size_of_leaf (spM K mg 3 f_size_of_leaf) := by
  refine Fun.dl (N := N_size_of_leaf) F sc_size_of_leaf fun cdv A outer s H E W as hr => ?_
  have Sc := sc_size_of_leaf
  have hu := hr.rm.units
  have hu65 := units65 hr.rm
  have hu1 := units1 hr.rm
  exact (qs_cons (qs_if (pt_cmpX (ox_eq rfl hu) (pd_var 0) (pd_globS (by rfl) T.c_MANY) (by rfl)) (qs_one (qs_ret (px_ifExp (PW.pt (pw_andX (pt_cmpX (ox_in rfl hu65) (px_ix rfl (px_cst rfl (by rfl) T.c_HEAP_LEAVES) pd_int) (pd_var 2) (by rfl)) (pw_andX (pt_cmpX (ox_eq rfl hu) (px_callB (cx_len rfl) (by rfl) T.n_len (by decide +kernel) (px_cons (pd_var 1) px_nil)) pd_int (by rfl)) (pw_and1X (pt_tru rfl (px_callC C_is_worth hr (by rfl) rfl rfl (takes_of rfl rfl rfl rfl) (px_cons (px_ix rfl (pd_var 1) pd_int) px_nil))))))) pd_int pd_non))) qs_nil)
    (qs_one (qs_ret (px_ifExp (PW.pt (pw_andX (pt_cmpX (ox_in rfl hu65) (pd_var 0) (pd_var 2) (by rfl)) (pw_and1X (pt_cmpX (ox_eq rfl hu) (pd_var 1) (px_lst px_nil) (by rfl))))) pd_int pd_non))))
/-! size_of_term -/
abbrev s_size_of_term : Stmt := topS 31
abbrev N_size_of_term : List Str := ["thing", "leaves", "deep", "word", "parts", "sizes", "part"]
abbrev P_size_of_term : List Str := ["thing", "leaves", "deep"]
noncomputable def qsize_of_term_e1 (R : DF) : DM D := (mBind (lCons (eVar 6) (lCons (eVar 1) (lCons (eOp opSub (eVar 2) (eK (.int 1))) lNil))) (callF 3 R))
noncomputable def m_size_of_term (R : DF) : DM Fl := (sSeq (sIf (eTru (mBind (lCons (eVar 0) lNil) (callF 1 f_is_worth))) (sRet (eK (.int 1))) sNext)
    (sSeq (sIf (bOr (bNot (eTru (eIsI .tuple (eVar 0)))) (bOr (eTest (eOp (opEqT false) (eVar 0) (eTup lNil))) (bNot (eTru (eIsI .str (eOp opIx (eVar 0) (eK (.int 0)))))))) (sRet (eK .non)) sNext)
    (sSeq (sStarF 1 (tgCons (tgName 3) (tgCons (tgName 4) tgNil)) (eVar 0))
    (sSeq (sIf (bAnd (eTest (eTabIn true [("plus", "plus_of"), ("minus", "minus_of"), ("times", "times_of"), ("over", "over_of"), ("rest", "rest_of"), ("less", "less_of"), ("same", "same_of"), ("low", "low_of"), ("high", "high_of")] ["if", "law_comeright_k04_what_terms_come_to", "least", "many", "most", "own", "sum", "ties", "word"] (eVar 3))) (eTest (eOp (opEq true) (eVar 3) (eK (.str "if"))))) (sRet (mBind (lCons (eVar 3) (lCons (eVar 4) (lCons (eVar 1) lNil))) (callF 3 f_size_of_leaf))) sNext)
    (sSeq (sIf (bOr (eTest (eOp (opEq false) (eVar 2) (eK (.int 0)))) (eTest (eOp (opEq true) (eCall fLen (lCons (eVar 4) lNil)) (eIf (eTest (eOp (opEq false) (eVar 3) (eK (.str "if")))) (eK (.int 3)) (eK (.int 2)))))) (sRet (eK .non)) sNext)
    (sSeq (sSet 5 (mBind (lcAll [6] (iSeq (eVar 4)) (tgName 6) (mRet true) (qsize_of_term_e1 R)) mkF))
    (sRet (eIf (eTest (eOp (opIn false) (eK .non) (eVar 5))) (eK .non) (eOp opAdd (eK (.int 1)) (eCall fSum1 (lCons (eVar 5) lNil)))))))))))
noncomputable def F_size_of_term (n : Nat) : DF := Nat.rec (fun _ _ => .stuck) (fun _ R => runF 7 (m_size_of_term R)) n
theorem F_size_of_term_succ (n : Nat) : F_size_of_term (n + 1) = runF 7 (m_size_of_term (F_size_of_term n)) := rfl
noncomputable def f_size_of_term : DF := F_size_of_term 8
theorem sc_size_of_term : FnScope N_size_of_term P_size_of_term (defScope s_size_of_term) := ⟨rfl, rfl, rfl, by decide +kernel, rfl, by decide +kernel, by decide +kernel⟩
theorem ok_size_of_term {P : Program} {w : World} {K : PySem.W.Frag} {mg : Str → Option Value} {base : Heap} {a : Addr} {fd : FuncData} (T : Txt K w.params mg) (F : Fun K "size_of_term" "size_of_term" s_size_of_term a fd) (hm : mg "size_of_term" = some (.ref a)) (hb : Binds K fd P_size_of_term []) (C_is_worth : Cal P w K mg base 4 "is_worth" P_is_worth f_is_worth) (C_size_of_leaf : Cal P w K mg base 4 "size_of_leaf" P_size_of_leaf f_size_of_leaf) : FnG P w K mg base 12 a fd P_size_of_term (spM K mg 3 f_size_of_term) := by
  have key : ∀ n : Nat, FnG P w K mg base (4 + n) a fd P_size_of_term (spM K mg 3 (F_size_of_term n)) := by
    intro n
    induction n with
    | zero => exact FnG.zero
    | succ n ih =>
      have C_is_worth := C_is_worth.mono (Nat.le_add_right 4 n)
      have C_size_of_leaf := C_size_of_leaf.mono (Nat.le_add_right 4 n)
      have C_size_of_term : Cal P w K mg base (4 + n) "size_of_term" P_size_of_term (F_size_of_term n) := Cal.of ih hm F hb
      refine Fun.dl (N := N_size_of_term) F sc_size_of_term fun cdv A outer s H E W as hr => ?_
      have Sc := sc_size_of_term
      have hu := hr.rm.units
      have hu65 := units65 hr.rm
      have hu1 := units1 hr.rm
      exact (qs_cons (qs_if (pt_tru rfl (px_callC C_is_worth hr (by rfl) rfl rfl (takes_of rfl rfl rfl rfl) (px_cons (pd_var 0) px_nil))) (qs_one (qs_ret pd_int)) qs_nil)
    (qs_cons (qs_if (PW.pt (pw_orX (pt_notX (pt_tru rfl (px_isi rfl .tuple (by decide +kernel) (by rfl) T.n_isinstance (by rfl) T.n_tuple (pd_var 0)))) (pw_orX (pt_cmpX (ox_eqT rfl hu) (pd_var 0) (px_tup px_nil) (by rfl)) (pw_or1X (pt_notX (pt_tru rfl (px_isi rfl .str (by decide +kernel) (by rfl) T.n_isinstance (by rfl) T.n_str (px_ix rfl (pd_var 0) pd_int)))))))) (qs_one (qs_ret pd_non)) qs_nil)
    (qs_cons (qs_starF rfl rfl (pd_var 0) (gx_cons (gx_name (i := 3) Sc.nd rfl (by first | exact Or.inl rfl | exact Or.inr rfl)) (gx_cons (gx_name (i := 4) Sc.nd rfl (by first | exact Or.inl rfl | exact Or.inr rfl)) gx_nil)))
    (qs_cons (qs_if (PW.pt (pw_andX (pt_tabNin T.c_OPS (by rfl) (pd_var 3)) (pw_and1X (pt_cmpX (ox_ne rfl hu) (pd_var 3) (pd_globS (by rfl) T.c_IF) (by rfl))))) (qs_one (qs_ret (px_callC C_size_of_leaf hr (by rfl) rfl rfl (takes_of rfl rfl rfl rfl) (px_cons (pd_var 3) (px_cons (pd_var 4) (px_cons (pd_var 1) px_nil)))))) qs_nil)
    (qs_cons (qs_if (PW.pt (pw_orX (pt_cmpX (ox_eq rfl hu) (pd_var 2) pd_int (by rfl)) (pw_or1X (pt_cmpX (ox_ne rfl hu) (px_callB (cx_len rfl) (by rfl) T.n_len (by decide +kernel) (px_cons (pd_var 4) px_nil)) (px_ifExp (pt_cmpX (ox_eq rfl hu) (pd_var 3) (pd_globS (by rfl) T.c_IF) (by rfl)) pd_int pd_int) (by rfl))))) (qs_one (qs_ret pd_non)) qs_nil)
    (qs_cons (qs_setLcG (own := [("part", 6)]) (i := 5) (mk := mkF) (by first | exact .inl rfl | exact .inr rfl) rfl rfl rfl Sc.nd rfl rfl (by rfl) (ix_seq rfl (pd_var 4)) (by exact blkOk_by (N := N_size_of_term) (sc := defScope s_size_of_term) (own := [("part", 6)]) (by first | decide +kernel | kernel_rfl | rfl)) (fun s1 H1 C1 cl1 fp1 => (pg_name (i := 6) Sc.nd rfl (by first | exact Or.inl rfl | exact Or.inr rfl))) (tr_name) (fun s1 H1 C1 cl1 fp1 g1 hK1 hM1 => ptsx_nil) (fun s1 H1 C1 cl1 fp1 g1 hK1 hM1 => (px_callC C_size_of_term hr (by rfl) hK1 hM1 takes0 (px_cons (pd_var 6) (px_cons (pd_var 1) (px_cons (px_op ox_sub (pd_var 2) pd_int) px_nil))))))
    (qs_one (qs_ret (px_ifExp (pt_cmpX (ox_in rfl hu65) pd_non (pd_var 5) (by rfl)) pd_non (px_op (ox_add rfl) pd_int (px_callB (cx_sum1 rfl) (by rfl) T.n_sum (by decide +kernel) (px_cons (pd_var 5) px_nil))))))))))))
  exact key 8
/-! is_term_of -/
abbrev s_is_term_of : Stmt := topS 32
abbrev N_is_term_of : List Str := ["thing", "leaves", "many"]
abbrev P_is_term_of : List Str := ["thing", "leaves"]
noncomputable def m_is_term_of : DM Fl := (sSeq (sSet 2 (mBind (lCons (eVar 0) (lCons (eVar 1) (lCons (eK (.int 5)) lNil))) (callF 3 f_size_of_term)))
    (sRet (eAnd (eOp (opIs true) (eVar 2) (eK .non)) (eOp (opCmpI fun i j => decide (i ≤ j)) (eVar 2) (eK (.int 40))))))
noncomputable def f_is_term_of : DF := runF 3 m_is_term_of
theorem sc_is_term_of : FnScope N_is_term_of P_is_term_of (defScope s_is_term_of) := ⟨rfl, rfl, rfl, by decide +kernel, rfl, by decide +kernel, by decide +kernel⟩
theorem ok_is_term_of {P : Program} {w : World} {K : PySem.W.Frag} {mg : Str → Option Value} {base : Heap} {a : Addr} {fd : FuncData} (T : Txt K w.params mg) (F : Fun K "is_term_of" "is_term_of" s_is_term_of a fd) (C_size_of_term : Cal P w K mg base 12 "size_of_term" P_size_of_term f_size_of_term) : FnG P w K mg base 13 a fd P_is_term_of (spM K mg 2 f_is_term_of) := by
  refine Fun.dl (N := N_is_term_of) F sc_is_term_of fun cdv A outer s H E W as hr => ?_
  have Sc := sc_is_term_of
  have hu := hr.rm.units
  have hu65 := units65 hr.rm
  have hu1 := units1 hr.rm
  exact (qs_cons (qs_set (i := 2) Sc.nd rfl (by first | exact Or.inl rfl | exact Or.inr rfl) (px_callC C_size_of_term hr (by rfl) rfl rfl (takes_of rfl rfl rfl rfl) (px_cons (pd_var 0) (px_cons (pd_var 1) (px_cons (pd_globI (by rfl) T.c_MOST_DEEP) px_nil)))))
    (qs_one (qs_ret (px_and rfl (px_cmp ox_isnot (pd_var 2) pd_non (by rfl)) (px_one (px_cmp ox_le (pd_var 2) (pd_globI (by rfl) T.c_MOST_TERMS) (by rfl)))))))
/-! is_first -/
abbrev s_is_first : Stmt := topS 33
abbrev N_is_first : List Str := ["thing"]
abbrev P_is_first : List Str := ["thing"]
noncomputable def m_is_first : DM Fl := (sRet (mBind (lCons (eVar 0) (lCons (eK (.pd (PyData.tuple (List.map PyData.str ["word", "ties"])))) lNil)) (callF 2 f_is_term_of)))
noncomputable def f_is_first : DF := runF 1 m_is_first
theorem sc_is_first : FnScope N_is_first P_is_first (defScope s_is_first) := ⟨rfl, rfl, rfl, by decide +kernel, rfl, by decide +kernel, by decide +kernel⟩
theorem ok_is_first {P : Program} {w : World} {K : PySem.W.Frag} {mg : Str → Option Value} {base : Heap} {a : Addr} {fd : FuncData} (T : Txt K w.params mg) (F : Fun K "is_first" "is_first" s_is_first a fd) (C_is_term_of : Cal P w K mg base 13 "is_term_of" P_is_term_of f_is_term_of) : FnG P w K mg base 14 a fd P_is_first (spM K mg 1 f_is_first) := by
  refine Fun.dl (N := N_is_first) F sc_is_first fun cdv A outer s H E W as hr => ?_
  have Sc := sc_is_first
  have hu := hr.rm.units
  have hu65 := units65 hr.rm
  have hu1 := units1 hr.rm
  exact (qs_one (qs_ret (px_callC C_is_term_of hr (by rfl) rfl rfl (takes_of rfl rfl rfl rfl) (px_cons (pd_var 0) (px_cons (px_cst rfl (by rfl) T.c_FIRST_LEAVES) px_nil)))))
/-! is_next -/
abbrev s_is_next : Stmt := topS 34
abbrev N_is_next : List Str := ["thing"]
abbrev P_is_next : List Str := ["thing"]
noncomputable def m_is_next : DM Fl := (sRet (mBind (lCons (eVar 0) (lCons (eK (.pd (PyData.tuple (List.map PyData.str ["own", "ties", "sum", "least", "most"])))) lNil)) (callF 2 f_is_term_of)))
noncomputable def f_is_next : DF := runF 1 m_is_next
theorem sc_is_next : FnScope N_is_next P_is_next (defScope s_is_next) := ⟨rfl, rfl, rfl, by decide +kernel, rfl, by decide +kernel, by decide +kernel⟩
theorem ok_is_next {P : Program} {w : World} {K : PySem.W.Frag} {mg : Str → Option Value} {base : Heap} {a : Addr} {fd : FuncData} (T : Txt K w.params mg) (F : Fun K "is_next" "is_next" s_is_next a fd) (C_is_term_of : Cal P w K mg base 13 "is_term_of" P_is_term_of f_is_term_of) : FnG P w K mg base 14 a fd P_is_next (spM K mg 1 f_is_next) := by
  refine Fun.dl (N := N_is_next) F sc_is_next fun cdv A outer s H E W as hr => ?_
  have Sc := sc_is_next
  have hu := hr.rm.units
  have hu65 := units65 hr.rm
  have hu1 := units1 hr.rm
  exact (qs_one (qs_ret (px_callC C_is_term_of hr (by rfl) rfl rfl (takes_of rfl rfl rfl rfl) (px_cons (pd_var 0) (px_cons (px_cst rfl (by rfl) T.c_NEXT_LEAVES) px_nil)))))
/-! need_term -/
abbrev s_need_term : Stmt := topS 35
abbrev N_need_term : List Str := ["thing"]
abbrev P_need_term : List Str := ["thing"]
noncomputable def m_need_term : DM Fl := (sIf (bAnd (bNot (eTru (mBind (lCons (eVar 0) lNil) (callF 1 f_is_first)))) (bNot (eTru (mBind (lCons (eVar 0) lNil) (callF 1 f_is_next))))) sNever sNext)
noncomputable def f_need_term : DF := runF 1 m_need_term
theorem sc_need_term : FnScope N_need_term P_need_term (defScope s_need_term) := ⟨rfl, rfl, rfl, by decide +kernel, rfl, by decide +kernel, by decide +kernel⟩
theorem ok_need_term {P : Program} {w : World} {K : PySem.W.Frag} {mg : Str → Option Value} {base : Heap} {a : Addr} {fd : FuncData} (T : Txt K w.params mg) (F : Fun K "need_term" "need_term" s_need_term a fd) (C_is_first : Cal P w K mg base 14 "is_first" P_is_first f_is_first) (C_is_next : Cal P w K mg base 14 "is_next" P_is_next f_is_next) : FnG P w K mg base 15 a fd P_need_term (spM K mg 1 f_need_term) := by
  refine Fun.dl (N := N_need_term) F sc_need_term fun cdv A outer s H E W as hr => ?_
  have Sc := sc_need_term
  have hu := hr.rm.units
  have hu65 := units65 hr.rm
  have hu1 := units1 hr.rm
  exact (qs_one (qs_if (PW.pt (pw_andX (pt_notX (pt_tru rfl (px_callC C_is_first hr (by rfl) rfl rfl (takes_of rfl rfl rfl rfl) (px_cons (pd_var 0) px_nil)))) (pw_and1X (pt_notX (pt_tru rfl (px_callC C_is_next hr (by rfl) rfl rfl (takes_of rfl rfl rfl rfl) (px_cons (pd_var 0) px_nil))))))) (qs_one qs_never) qs_nil))
/-! are_below -/
abbrev s_are_below : Stmt := topS 9
abbrev N_are_below : List Str := ["thing", "many", "one"]
abbrev P_are_below : List Str := ["thing", "many"]
noncomputable def qare_below_e1 : DM D := (mBind (lCons (eVar 2) (lCons (eVar 1) lNil)) (callF 2 f_is_below))
noncomputable def m_are_below : DM Fl := (sRet (eAnd (eIsI .tuple (eVar 0)) (eCall fAll (lCons (eLc [2] (iSeq (eVar 0)) (tgName 2) (mRet true) qare_below_e1) lNil))))
noncomputable def f_are_below : DF := runF 3 m_are_below
theorem sc_are_below : FnScope N_are_below P_are_below (defScope s_are_below) := ⟨rfl, rfl, rfl, by decide +kernel, rfl, by decide +kernel, by decide +kernel⟩
theorem ok_are_below {P : Program} {w : World} {K : PySem.W.Frag} {mg : Str → Option Value} {base : Heap} {a : Addr} {fd : FuncData} (T : Txt K w.params mg) (F : Fun K "are_below" "are_below" s_are_below a fd) (C_is_below : Cal P w K mg base 2 "is_below" P_is_below f_is_below) : FnG P w K mg base 3 a fd P_are_below (spM K mg 2 f_are_below) := by
  refine Fun.dl (N := N_are_below) F sc_are_below fun cdv A outer s H E W as hr => ?_
  have Sc := sc_are_below
  have hu := hr.rm.units
  have hu65 := units65 hr.rm
  have hu1 := units1 hr.rm
  exact (qs_one (qs_ret (px_and rfl (px_isi rfl .tuple (by decide +kernel) (by rfl) T.n_isinstance (by rfl) T.n_tuple (pd_var 0)) (px_one (px_callB (cx_all rfl) (by rfl) T.n_all (by decide +kernel) (px_cons (px_lc (own := [("one", 2)]) rfl rfl rfl Sc.nd (ix_seq rfl (pd_var 0)) (by exact blkOk_by (N := N_are_below) (sc := defScope s_are_below) (own := [("one", 2)]) (by first | decide +kernel | kernel_rfl | rfl)) (fun s1 H1 C1 cl1 fp1 => (pg_name (i := 2) Sc.nd rfl (by first | exact Or.inl rfl | exact Or.inr rfl))) (tr_name) (fun s1 H1 C1 cl1 fp1 g1 hK1 hM1 => ptsx_nil) (fun s1 H1 C1 cl1 fp1 g1 hK1 hM1 => (px_callC C_is_below hr (by rfl) hK1 hM1 takes0 (px_cons (pd_var 2) (px_cons (pd_var 1) px_nil))))) px_nil))))))
/-! high_of -/
abbrev s_high_of : Stmt := topS 27
abbrev N_high_of : List Str := ["one", "other"]
abbrev P_high_of : List Str := ["one", "other"]
noncomputable def m_high_of : DM Fl := (sRet (eCall fMax2 (lCons (eVar 0) (lCons (eVar 1) lNil))))
noncomputable def f_high_of : DF := runF 2 m_high_of
theorem sc_high_of : FnScope N_high_of P_high_of (defScope s_high_of) := ⟨rfl, rfl, rfl, by decide +kernel, rfl, by decide +kernel, by decide +kernel⟩
theorem ok_high_of {P : Program} {w : World} {K : PySem.W.Frag} {mg : Str → Option Value} {base : Heap} {a : Addr} {fd : FuncData} (T : Txt K w.params mg) (F : Fun K "high_of" "high_of" s_high_of a fd) : FnG P w K mg base 1 a fd P_high_of (spM K mg 2 f_high_of) := by
  refine Fun.dl (N := N_high_of) F sc_high_of fun cdv A outer s H E W as hr => ?_
  have Sc := sc_high_of
  have hu := hr.rm.units
  have hu65 := units65 hr.rm
  have hu1 := units1 hr.rm
  exact (qs_one (qs_ret (px_callB (cx_max2 rfl) (by rfl) T.n_max (by decide +kernel) (px_cons (pd_var 0) (px_cons (pd_var 1) px_nil)))))
/-! low_of -/
abbrev s_low_of : Stmt := topS 26
abbrev N_low_of : List Str := ["one", "other"]
abbrev P_low_of : List Str := ["one", "other"]
noncomputable def m_low_of : DM Fl := (sRet (eCall fMin2 (lCons (eVar 0) (lCons (eVar 1) lNil))))
noncomputable def f_low_of : DF := runF 2 m_low_of
theorem sc_low_of : FnScope N_low_of P_low_of (defScope s_low_of) := ⟨rfl, rfl, rfl, by decide +kernel, rfl, by decide +kernel, by decide +kernel⟩
theorem ok_low_of {P : Program} {w : World} {K : PySem.W.Frag} {mg : Str → Option Value} {base : Heap} {a : Addr} {fd : FuncData} (T : Txt K w.params mg) (F : Fun K "low_of" "low_of" s_low_of a fd) : FnG P w K mg base 1 a fd P_low_of (spM K mg 2 f_low_of) := by
  refine Fun.dl (N := N_low_of) F sc_low_of fun cdv A outer s H E W as hr => ?_
  have Sc := sc_low_of
  have hu := hr.rm.units
  have hu65 := units65 hr.rm
  have hu1 := units1 hr.rm
  exact (qs_one (qs_ret (px_callB (cx_min2 rfl) (by rfl) T.n_min (by decide +kernel) (px_cons (pd_var 0) (px_cons (pd_var 1) px_nil)))))
/-! same_of -/
abbrev s_same_of : Stmt := topS 25
abbrev N_same_of : List Str := ["one", "other"]
abbrev P_same_of : List Str := ["one", "other"]
noncomputable def m_same_of : DM Fl := (sRet (eCall fInt (lCons (eOp (opEq false) (eVar 0) (eVar 1)) lNil)))
noncomputable def f_same_of : DF := runF 2 m_same_of
theorem sc_same_of : FnScope N_same_of P_same_of (defScope s_same_of) := ⟨rfl, rfl, rfl, by decide +kernel, rfl, by decide +kernel, by decide +kernel⟩
theorem ok_same_of {P : Program} {w : World} {K : PySem.W.Frag} {mg : Str → Option Value} {base : Heap} {a : Addr} {fd : FuncData} (T : Txt K w.params mg) (F : Fun K "same_of" "same_of" s_same_of a fd) : FnG P w K mg base 1 a fd P_same_of (spM K mg 2 f_same_of) := by
  refine Fun.dl (N := N_same_of) F sc_same_of fun cdv A outer s H E W as hr => ?_
  have Sc := sc_same_of
  have hu := hr.rm.units
  have hu65 := units65 hr.rm
  have hu1 := units1 hr.rm
  exact (qs_one (qs_ret (px_callTy cx_int (by rfl) T.n_int (by decide +kernel) (px_cons (px_cmp (ox_eq rfl hu) (pd_var 0) (pd_var 1) (by rfl)) px_nil))))
/-! less_of -/
abbrev s_less_of : Stmt := topS 24
abbrev N_less_of : List Str := ["one", "other"]
abbrev P_less_of : List Str := ["one", "other"]
noncomputable def m_less_of : DM Fl := (sRet (eCall fInt (lCons (eOp opLt (eVar 0) (eVar 1)) lNil)))
noncomputable def f_less_of : DF := runF 2 m_less_of
theorem sc_less_of : FnScope N_less_of P_less_of (defScope s_less_of) := ⟨rfl, rfl, rfl, by decide +kernel, rfl, by decide +kernel, by decide +kernel⟩
theorem ok_less_of {P : Program} {w : World} {K : PySem.W.Frag} {mg : Str → Option Value} {base : Heap} {a : Addr} {fd : FuncData} (T : Txt K w.params mg) (F : Fun K "less_of" "less_of" s_less_of a fd) : FnG P w K mg base 1 a fd P_less_of (spM K mg 2 f_less_of) := by
  refine Fun.dl (N := N_less_of) F sc_less_of fun cdv A outer s H E W as hr => ?_
  have Sc := sc_less_of
  have hu := hr.rm.units
  have hu65 := units65 hr.rm
  have hu1 := units1 hr.rm
  exact (qs_one (qs_ret (px_callTy cx_int (by rfl) T.n_int (by decide +kernel) (px_cons (px_cmp (ox_lt rfl hu) (pd_var 0) (pd_var 1) (by rfl)) px_nil))))
/-! rest_of -/
abbrev s_rest_of : Stmt := topS 23
abbrev N_rest_of : List Str := ["one", "other"]
abbrev P_rest_of : List Str := ["one", "other"]
noncomputable def m_rest_of : DM Fl := (sRet (eIf (eTest (eOp (opEq false) (eVar 1) (eK (.int 0)))) (eK (.int 0)) (eOp opMod (eVar 0) (eVar 1))))
noncomputable def f_rest_of : DF := runF 2 m_rest_of
theorem sc_rest_of : FnScope N_rest_of P_rest_of (defScope s_rest_of) := ⟨rfl, rfl, rfl, by decide +kernel, rfl, by decide +kernel, by decide +kernel⟩
theorem ok_rest_of {P : Program} {w : World} {K : PySem.W.Frag} {mg : Str → Option Value} {base : Heap} {a : Addr} {fd : FuncData} (T : Txt K w.params mg) (F : Fun K "rest_of" "rest_of" s_rest_of a fd) : FnG P w K mg base 1 a fd P_rest_of (spM K mg 2 f_rest_of) := by
  refine Fun.dl (N := N_rest_of) F sc_rest_of fun cdv A outer s H E W as hr => ?_
  have Sc := sc_rest_of
  have hu := hr.rm.units
  have hu65 := units65 hr.rm
  have hu1 := units1 hr.rm
  exact (qs_one (qs_ret (px_ifExp (pt_cmpX (ox_eq rfl hu) (pd_var 1) pd_int (by rfl)) pd_int (px_op ox_mod (pd_var 0) (pd_var 1)))))
/-! over_of -/
abbrev s_over_of : Stmt := topS 22
abbrev N_over_of : List Str := ["one", "other"]
abbrev P_over_of : List Str := ["one", "other"]
noncomputable def m_over_of : DM Fl := (sRet (eIf (eTest (eOp (opEq false) (eVar 1) (eK (.int 0)))) (eK (.int 0)) (eOp opDiv (eVar 0) (eVar 1))))
noncomputable def f_over_of : DF := runF 2 m_over_of
theorem sc_over_of : FnScope N_over_of P_over_of (defScope s_over_of) := ⟨rfl, rfl, rfl, by decide +kernel, rfl, by decide +kernel, by decide +kernel⟩
theorem ok_over_of {P : Program} {w : World} {K : PySem.W.Frag} {mg : Str → Option Value} {base : Heap} {a : Addr} {fd : FuncData} (T : Txt K w.params mg) (F : Fun K "over_of" "over_of" s_over_of a fd) : FnG P w K mg base 1 a fd P_over_of (spM K mg 2 f_over_of) := by
  refine Fun.dl (N := N_over_of) F sc_over_of fun cdv A outer s H E W as hr => ?_
  have Sc := sc_over_of
  have hu := hr.rm.units
  have hu65 := units65 hr.rm
  have hu1 := units1 hr.rm
  exact (qs_one (qs_ret (px_ifExp (pt_cmpX (ox_eq rfl hu) (pd_var 1) pd_int (by rfl)) pd_int (px_op ox_div (pd_var 0) (pd_var 1)))))
/-! times_of -/
abbrev s_times_of : Stmt := topS 21
abbrev N_times_of : List Str := ["one", "other"]
abbrev P_times_of : List Str := ["one", "other"]
noncomputable def m_times_of : DM Fl := (sRet (eOp opMod (eOp opMul2 (eVar 0) (eVar 1)) (eK (.int 997))))
noncomputable def f_times_of : DF := runF 2 m_times_of
theorem sc_times_of : FnScope N_times_of P_times_of (defScope s_times_of) := ⟨rfl, rfl, rfl, by decide +kernel, rfl, by decide +kernel, by decide +kernel⟩
theorem ok_times_of {P : Program} {w : World} {K : PySem.W.Frag} {mg : Str → Option Value} {base : Heap} {a : Addr} {fd : FuncData} (T : Txt K w.params mg) (F : Fun K "times_of" "times_of" s_times_of a fd) : FnG P w K mg base 1 a fd P_times_of (spM K mg 2 f_times_of) := by
  refine Fun.dl (N := N_times_of) F sc_times_of fun cdv A outer s H E W as hr => ?_
  have Sc := sc_times_of
  have hu := hr.rm.units
  have hu65 := units65 hr.rm
  have hu1 := units1 hr.rm
  exact (qs_one (qs_ret (px_op ox_mod (px_op (ox_mul2 rfl) (pd_var 0) (pd_var 1)) (pd_globI (by rfl) T.c_WORTHS))))
/-! minus_of -/
abbrev s_minus_of : Stmt := topS 20
abbrev N_minus_of : List Str := ["one", "other"]
abbrev P_minus_of : List Str := ["one", "other"]
noncomputable def m_minus_of : DM Fl := (sRet (eOp opMod (eOp opSub (eVar 0) (eVar 1)) (eK (.int 997))))
noncomputable def f_minus_of : DF := runF 2 m_minus_of
theorem sc_minus_of : FnScope N_minus_of P_minus_of (defScope s_minus_of) := ⟨rfl, rfl, rfl, by decide +kernel, rfl, by decide +kernel, by decide +kernel⟩
theorem ok_minus_of {P : Program} {w : World} {K : PySem.W.Frag} {mg : Str → Option Value} {base : Heap} {a : Addr} {fd : FuncData} (T : Txt K w.params mg) (F : Fun K "minus_of" "minus_of" s_minus_of a fd) : FnG P w K mg base 1 a fd P_minus_of (spM K mg 2 f_minus_of) := by
  refine Fun.dl (N := N_minus_of) F sc_minus_of fun cdv A outer s H E W as hr => ?_
  have Sc := sc_minus_of
  have hu := hr.rm.units
  have hu65 := units65 hr.rm
  have hu1 := units1 hr.rm
  exact (qs_one (qs_ret (px_op ox_mod (px_op ox_sub (pd_var 0) (pd_var 1)) (pd_globI (by rfl) T.c_WORTHS))))
/-! plus_of -/
abbrev s_plus_of : Stmt := topS 19
abbrev N_plus_of : List Str := ["one", "other"]
abbrev P_plus_of : List Str := ["one", "other"]
noncomputable def m_plus_of : DM Fl := (sRet (eOp opMod (eOp opAdd (eVar 0) (eVar 1)) (eK (.int 997))))
noncomputable def f_plus_of : DF := runF 2 m_plus_of
theorem sc_plus_of : FnScope N_plus_of P_plus_of (defScope s_plus_of) := ⟨rfl, rfl, rfl, by decide +kernel, rfl, by decide +kernel, by decide +kernel⟩
theorem ok_plus_of {P : Program} {w : World} {K : PySem.W.Frag} {mg : Str → Option Value} {base : Heap} {a : Addr} {fd : FuncData} (T : Txt K w.params mg) (F : Fun K "plus_of" "plus_of" s_plus_of a fd) : FnG P w K mg base 1 a fd P_plus_of (spM K mg 2 f_plus_of) := by
  refine Fun.dl (N := N_plus_of) F sc_plus_of fun cdv A outer s H E W as hr => ?_
  have Sc := sc_plus_of
  have hu := hr.rm.units
  have hu65 := units65 hr.rm
  have hu1 := units1 hr.rm
  exact (qs_one (qs_ret (px_op ox_mod (px_op (ox_add rfl) (pd_var 0) (pd_var 1)) (pd_globI (by rfl) T.c_WORTHS))))
/-! leaf_worth -/
abbrev s_leaf_worth : Stmt := topS 36
abbrev N_leaf_worth : List Str := ["term", "worth", "heap", "word"]
abbrev P_leaf_worth : List Str := ["term", "worth", "heap"]
noncomputable def m_leaf_worth : DM Fl := (sSeq (sSet 3 (eOp opIx (eVar 0) (eK (.int 0))))
    (sSeq (sIf (eTest (eOp (opEq false) (eVar 3) (eK (.str "ties")))) (sRet (eCall fLen (lCons (eVarW 2) lNil))) sNext)
    (sSeq (sIf (eTest (eOp (opEq false) (eVar 3) (eK (.str "many")))) (sRet (eCntX (eVar 2) (lCons (eOp opIx (eVar 0) (eK (.int 1))) lNil))) sNext)
    (sSeq (sIf (eTest (eOp (opEq false) (eVar 3) (eK (.str "sum")))) (sRet (eOp opMod (eCall fSum1Q (lCons (eVarW 2) lNil)) (eK (.int 997)))) sNext)
    (sSeq (sIf (eTest (eOp (opIn false) (eVar 3) (eK (.pd (PyData.tuple (List.map PyData.str ["sum", "least", "most"])))))) (sRet (eIf (eTest (eOp (opEq false) (eVar 3) (eK (.str "least")))) (eCallK fMinDf (lCons (eVarW 2) lNil) (lCons (eK (.int 0)) lNil)) (eCallK fMaxDf (lCons (eVarW 2) lNil) (lCons (eK (.int 0)) lNil)))) sNext)
    (sRet (eVar 1)))))))
noncomputable def f_leaf_worth : DF := runF 4 m_leaf_worth
theorem sc_leaf_worth : FnScope N_leaf_worth P_leaf_worth (defScope s_leaf_worth) := ⟨rfl, rfl, rfl, by decide +kernel, rfl, by decide +kernel, by decide +kernel⟩
theorem ok_leaf_worth {P : Program} {w : World} {K : PySem.W.Frag} {mg : Str → Option Value} {base : Heap} {a : Addr} {fd : FuncData} (T : Txt K w.params mg) (F : Fun K "leaf_worth" "leaf_worth" s_leaf_worth a fd) : FnG P w K mg base 1 a fd P_leaf_worth (spM K mg 3 f_leaf_worth) := by
  refine Fun.dl (N := N_leaf_worth) F sc_leaf_worth fun cdv A outer s H E W as hr => ?_
  have Sc := sc_leaf_worth
  have hu := hr.rm.units
  have hu65 := units65 hr.rm
  have hu1 := units1 hr.rm
  exact (qs_cons (qs_set (i := 3) Sc.nd rfl (by first | exact Or.inl rfl | exact Or.inr rfl) (px_ix rfl (pd_var 0) pd_int))
    (qs_cons (qs_if (pt_cmpX (ox_eq rfl hu) (pd_var 3) pd_str (by rfl)) (qs_one (qs_ret (px_callB (cx_len rfl) (by rfl) T.n_len (by decide +kernel) (px_cons (pd_varW 2) px_nil)))) qs_nil)
    (qs_cons (qs_if (pt_cmpX (ox_eq rfl hu) (pd_var 3) (pd_globS (by rfl) T.c_MANY) (by rfl)) (qs_one (qs_ret (px_cntX rfl hu (pd_var 2) (px_cons (px_ix rfl (pd_var 0) pd_int) px_nil)))) qs_nil)
    (qs_cons (qs_if (pt_cmpX (ox_eq rfl hu) (pd_var 3) pd_str (by rfl)) (qs_one (qs_ret (px_op ox_mod (px_callB (cx_sum1Q rfl rfl) (by rfl) T.n_sum (by decide +kernel) (px_cons (pd_varW 2) px_nil)) (pd_globI (by rfl) T.c_WORTHS)))) qs_nil)
    (qs_cons (qs_if (pt_cmpX (ox_in rfl hu65) (pd_var 3) (px_cst rfl (by rfl) T.c_HEAP_LEAVES) (by rfl)) (qs_one (qs_ret (px_ifExp (pt_cmpX (ox_eq rfl hu) (pd_var 3) pd_str (by rfl)) (px_callBK1 (cx_minDf rfl rfl hu) (by rfl) T.n_min (by decide +kernel) (px_cons (pd_varW 2) px_nil) pd_int) (px_callBK1 (cx_maxDf rfl rfl hu) (by rfl) T.n_max (by decide +kernel) (px_cons (pd_varW 2) px_nil) pd_int)))) qs_nil)
    (qs_one (qs_ret (pd_var 1))))))))
/-! worth_by -/
abbrev s_worth_by : Stmt := topS 37
abbrev N_worth_by : List Str := ["term", "worth", "heap", "word", "parts", "one", "other", "asked", "then", "otherwise", "part"]
abbrev P_worth_by : List Str := ["term", "worth", "heap"]
noncomputable def qworth_by_e1 (R : DF) : DM D := (mBind (lCons (eVar 10) (lCons (eVar 1) (lCons (eVar 2) lNil))) (callF 3 R))
noncomputable def m_worth_by (R : DF) : DM Fl := (sSeq (sIf (bNot (eTru (eIsI .tuple (eVar 0)))) (sRet (eVar 0)) sNext)
    (sSeq (sStarF 1 (tgCons (tgName 3) (tgCons (tgName 4) tgNil)) (eVar 0))
    (sSeq (sIf (eTest (eTabIn false [("plus", "plus_of"), ("minus", "minus_of"), ("times", "times_of"), ("over", "over_of"), ("rest", "rest_of"), ("less", "less_of"), ("same", "same_of"), ("low", "low_of"), ("high", "high_of")] ["if", "law_comeright_k04_what_terms_come_to", "least", "many", "most", "own", "sum", "ties", "word"] (eVar 3))) (sSeq (sAsg (tgSq (tgCons (tgName 5) (tgCons (tgName 6) tgNil))) (eLc [10] (iSeq (eVar 4)) (tgName 10) (mRet true) (qworth_by_e1 R)))
    (sRet (eTabCall 2 [("plus", f_plus_of), ("minus", f_minus_of), ("times", f_times_of), ("over", f_over_of), ("rest", f_rest_of), ("less", f_less_of), ("same", f_same_of), ("low", f_low_of), ("high", f_high_of)] (eVar 3) (lCons (eVar 5) (lCons (eVar 6) lNil))))) sNext)
    (sSeq (sIf (eTest (eOp (opEq false) (eVar 3) (eK (.str "if")))) (sSeq (sAsg (tgSq (tgCons (tgName 7) (tgCons (tgName 8) (tgCons (tgName 9) tgNil)))) (eVar 4))
    (sRet (mBind (lCons (eIf (eTest (eOp (opEq true) (mBind (lCons (eVar 7) (lCons (eVar 1) (lCons (eVar 2) lNil))) (callF 3 R)) (eK (.int 0)))) (eVar 8) (eVar 9)) (lCons (eVar 1) (lCons (eVar 2) lNil))) (callF 3 R)))) sNext)
    (sRet (mBind (lCons (eVar 0) (lCons (eVar 1) (lCons (eVar 2) lNil))) (callF 3 f_leaf_worth)))))))
noncomputable def F_worth_by (n : Nat) : DF := Nat.rec (fun _ _ => .stuck) (fun _ R => runF 11 (m_worth_by R)) n
theorem F_worth_by_succ (n : Nat) : F_worth_by (n + 1) = runF 11 (m_worth_by (F_worth_by n)) := rfl
noncomputable def f_worth_by : DF := F_worth_by 8
theorem sc_worth_by : FnScope N_worth_by P_worth_by (defScope s_worth_by) := ⟨rfl, rfl, rfl, by decide +kernel, rfl, by decide +kernel, by decide +kernel⟩
theorem ok_worth_by {P : Program} {w : World} {K : PySem.W.Frag} {mg : Str → Option Value} {base : Heap} {a : Addr} {fd : FuncData} (T : Txt K w.params mg) (F : Fun K "worth_by" "worth_by" s_worth_by a fd) (hm : mg "worth_by" = some (.ref a)) (hb : Binds K fd P_worth_by []) (C_high_of : Cal P w K mg base 1 "high_of" P_high_of f_high_of) (C_low_of : Cal P w K mg base 1 "low_of" P_low_of f_low_of) (C_same_of : Cal P w K mg base 1 "same_of" P_same_of f_same_of) (C_less_of : Cal P w K mg base 1 "less_of" P_less_of f_less_of) (C_rest_of : Cal P w K mg base 1 "rest_of" P_rest_of f_rest_of) (C_over_of : Cal P w K mg base 1 "over_of" P_over_of f_over_of) (C_times_of : Cal P w K mg base 1 "times_of" P_times_of f_times_of) (C_minus_of : Cal P w K mg base 1 "minus_of" P_minus_of f_minus_of) (C_plus_of : Cal P w K mg base 1 "plus_of" P_plus_of f_plus_of) (C_leaf_worth : Cal P w K mg base 1 "leaf_worth" P_leaf_worth f_leaf_worth) : FnG P w K mg base 9 a fd P_worth_by (spM K mg 3 f_worth_by) := by
  have key : ∀ n : Nat, FnG P w K mg base (1 + n) a fd P_worth_by (spM K mg 3 (F_worth_by n)) := by
    intro n
    induction n with
    | zero => exact FnG.zero
    | succ n ih =>
      have C_high_of := C_high_of.mono (Nat.le_add_right 1 n)
      have C_low_of := C_low_of.mono (Nat.le_add_right 1 n)
      have C_same_of := C_same_of.mono (Nat.le_add_right 1 n)
      have C_less_of := C_less_of.mono (Nat.le_add_right 1 n)
      have C_rest_of := C_rest_of.mono (Nat.le_add_right 1 n)
      have C_over_of := C_over_of.mono (Nat.le_add_right 1 n)
      have C_times_of := C_times_of.mono (Nat.le_add_right 1 n)
      have C_minus_of := C_minus_of.mono (Nat.le_add_right 1 n)
      have C_plus_of := C_plus_of.mono (Nat.le_add_right 1 n)
      have C_leaf_worth := C_leaf_worth.mono (Nat.le_add_right 1 n)
      have C_worth_by : Cal P w K mg base (1 + n) "worth_by" P_worth_by (F_worth_by n) := Cal.of ih hm F hb
      refine Fun.dl (N := N_worth_by) F sc_worth_by fun cdv A outer s H E W as hr => ?_
      have Sc := sc_worth_by
      have hu := hr.rm.units
      have hu65 := units65 hr.rm
      have hu1 := units1 hr.rm
      exact (qs_cons (qs_if (pt_notX (pt_tru rfl (px_isi rfl .tuple (by decide +kernel) (by rfl) T.n_isinstance (by rfl) T.n_tuple (pd_var 0)))) (qs_one (qs_ret (pd_var 0))) qs_nil)
    (qs_cons (qs_starF rfl rfl (pd_var 0) (gx_cons (gx_name (i := 3) Sc.nd rfl (by first | exact Or.inl rfl | exact Or.inr rfl)) (gx_cons (gx_name (i := 4) Sc.nd rfl (by first | exact Or.inl rfl | exact Or.inr rfl)) gx_nil)))
    (qs_cons (qs_if (pt_tabIn T.c_OPS (by rfl) (pd_var 3)) (qs_cons (qs_asg (px_lc (own := [("part", 10)]) rfl rfl rfl Sc.nd (ix_seq rfl (pd_var 4)) (by exact blkOk_by (N := N_worth_by) (sc := defScope s_worth_by) (own := [("part", 10)]) (by first | decide +kernel | kernel_rfl | rfl)) (fun s1 H1 C1 cl1 fp1 => (pg_name (i := 10) Sc.nd rfl (by first | exact Or.inl rfl | exact Or.inr rfl))) (tr_name) (fun s1 H1 C1 cl1 fp1 g1 hK1 hM1 => ptsx_nil) (fun s1 H1 C1 cl1 fp1 g1 hK1 hM1 => (px_callC C_worth_by hr (by rfl) hK1 hM1 takes0 (px_cons (pd_var 10) (px_cons (pd_var 1) (px_cons (pd_var 2) px_nil)))))) (GT.sq rfl rfl (gx_cons (gx_name (i := 5) Sc.nd rfl (by first | exact Or.inl rfl | exact Or.inr rfl)) (gx_cons (gx_name (i := 6) Sc.nd rfl (by first | exact Or.inl rfl | exact Or.inr rfl)) gx_nil)) rfl rfl (tgCons_len (tgCons_len tgNil_len))))
    (qs_one (qs_ret (px_tabCall T.c_OPS (TabC.cons C_plus_of rfl (TabC.cons C_minus_of rfl (TabC.cons C_times_of rfl (TabC.cons C_over_of rfl (TabC.cons C_rest_of rfl (TabC.cons C_less_of rfl (TabC.cons C_same_of rfl (TabC.cons C_low_of rfl (TabC.cons C_high_of rfl TabC.nil))))))))) (by rfl) hr rfl rfl (takes_of rfl rfl rfl rfl) (pd_var 3) (px_cons (pd_var 5) (px_cons (pd_var 6) px_nil)))))) qs_nil)
    (qs_cons (qs_if (pt_cmpX (ox_eq rfl hu) (pd_var 3) (pd_globS (by rfl) T.c_IF) (by rfl)) (qs_cons (qs_asg (pd_var 4) (GT.sq rfl rfl (gx_cons (gx_name (i := 7) Sc.nd rfl (by first | exact Or.inl rfl | exact Or.inr rfl)) (gx_cons (gx_name (i := 8) Sc.nd rfl (by first | exact Or.inl rfl | exact Or.inr rfl)) (gx_cons (gx_name (i := 9) Sc.nd rfl (by first | exact Or.inl rfl | exact Or.inr rfl)) gx_nil))) rfl rfl (tgCons_len (tgCons_len (tgCons_len tgNil_len)))))
    (qs_one (qs_ret (px_callC C_worth_by hr (by rfl) rfl rfl (takes_of rfl rfl rfl rfl) (px_cons (px_ifExp (pt_cmpX (ox_ne rfl hu) (px_callC C_worth_by hr (by rfl) rfl rfl (takes_of rfl rfl rfl rfl) (px_cons (pd_var 7) (px_cons (pd_var 1) (px_cons (pd_var 2) px_nil)))) pd_int (by rfl)) (pd_var 8) (pd_var 9)) (px_cons (pd_var 1) (px_cons (pd_var 2) px_nil))))))) qs_nil)
    (qs_one (qs_ret (px_callC C_leaf_worth hr (by rfl) rfl rfl (takes_of rfl rfl rfl rfl) (px_cons (pd_var 0) (px_cons (pd_var 1) (px_cons (pd_var 2) px_nil))))))))))
  exact key 8
/-! comes_to -/
abbrev s_comes_to : Stmt := topS 38
abbrev N_comes_to : List Str := ["term", "worth", "heap"]
abbrev P_comes_to : List Str := ["term", "worth", "heap"]
noncomputable def m_comes_to : DM Fl := (sSeq (sExpr (mBind (lCons (eVar 0) lNil) (callF 1 f_need_term)))
    (sSeq (sIf (bNot (eTru (mBind (lCons (eVar 1) lNil) (callF 1 f_is_worth)))) sNever sNext)
    (sSeq (sIf (bOr (bNot (eTru (mBind (lCons (eVarW 2) (lCons (eK (.int 997)) lNil)) (callF 2 f_are_below)))) (eTest (eOp (opCmpI fun i j => decide (j ≤ i)) (eCall fLen (lCons (eVarW 2) lNil)) (eK (.int 12))))) sNever sNext)
    (sRet (mBind (lCons (eVar 0) (lCons (eVar 1) (lCons (eVar 2) lNil))) (callF 3 f_worth_by))))))
noncomputable def f_comes_to : DF := runF 3 m_comes_to
theorem sc_comes_to : FnScope N_comes_to P_comes_to (defScope s_comes_to) := ⟨rfl, rfl, rfl, by decide +kernel, rfl, by decide +kernel, by decide +kernel⟩
theorem ok_comes_to {P : Program} {w : World} {K : PySem.W.Frag} {mg : Str → Option Value} {base : Heap} {a : Addr} {fd : FuncData} (T : Txt K w.params mg) (F : Fun K "comes_to" "comes_to" s_comes_to a fd) (C_need_term : Cal P w K mg base 15 "need_term" P_need_term f_need_term) (C_is_worth : Cal P w K mg base 15 "is_worth" P_is_worth f_is_worth) (C_are_below : Cal P w K mg base 15 "are_below" P_are_below f_are_below) (C_worth_by : Cal P w K mg base 15 "worth_by" P_worth_by f_worth_by) : FnG P w K mg base 16 a fd P_comes_to (spM K mg 3 f_comes_to) := by
  refine Fun.dl (N := N_comes_to) F sc_comes_to fun cdv A outer s H E W as hr => ?_
  have Sc := sc_comes_to
  have hu := hr.rm.units
  have hu65 := units65 hr.rm
  have hu1 := units1 hr.rm
  exact (qs_cons (qs_expr (px_callC C_need_term hr (by rfl) rfl rfl (takes_of rfl rfl rfl rfl) (px_cons (pd_var 0) px_nil)))
    (qs_cons (qs_if (pt_notX (pt_tru rfl (px_callC C_is_worth hr (by rfl) rfl rfl (takes_of rfl rfl rfl rfl) (px_cons (pd_var 1) px_nil)))) (qs_one qs_never) qs_nil)
    (qs_cons (qs_if (PW.pt (pw_orX (pt_notX (pt_tru rfl (px_callC C_are_below hr (by rfl) rfl rfl (takes_of rfl rfl rfl rfl) (px_cons (pd_varW 2) (px_cons (pd_globI (by rfl) T.c_WORTHS) px_nil))))) (pw_or1X (pt_cmpX ox_ge (px_callB (cx_len rfl) (by rfl) T.n_len (by decide +kernel) (px_cons (pd_varW 2) px_nil)) (pd_globI (by rfl) T.c_MOST_SEATS) (by rfl))))) (qs_one qs_never) qs_nil)
    (qs_one (qs_ret (px_callC C_worth_by hr (by rfl) rfl rfl (takes_of rfl rfl rfl rfl) (px_cons (pd_var 0) (px_cons (pd_var 1) (px_cons (pd_var 2) px_nil)))))))))
/-! _law_mixed -/
abbrev s__law_mixed : Stmt := topS 50
abbrev N__law_mixed : List Str := ["pool", "row", "left", "turn"]
abbrev P__law_mixed : List Str := ["pool", "row"]
noncomputable def q_law_mixed_e1 : DM D := (eMeth "list" mPopAt (eVar 2) (lCons (mBind (lCons (eVar 0) (lCons (eCall fLen (lCons (eVar 2) lNil)) lNil)) (callF 2 f__law_take)) lNil))
noncomputable def m__law_mixed : DM Fl := (sSeq (sSet 2 (eCall fListM (lCons (eVar 1) lNil)))
    (sRet (eCall fTupleX (lCons (eLc [3] (iRange1 (lCons (eCall fLen (lCons (eVar 2) lNil)) lNil)) (tgName 3) (mRet true) q_law_mixed_e1) lNil))))
noncomputable def f__law_mixed : DF := runF 4 m__law_mixed
theorem sc__law_mixed : FnScope N__law_mixed P__law_mixed (defScope s__law_mixed) := ⟨rfl, rfl, rfl, by decide +kernel, rfl, by decide +kernel, by decide +kernel⟩
theorem ok__law_mixed {P : Program} {w : World} {K : PySem.W.Frag} {mg : Str → Option Value} {base : Heap} {a : Addr} {fd : FuncData} (T : Txt K w.params mg) (F : Fun K "_law_mixed" "_law_mixed" s__law_mixed a fd) (C__law_take : Cal P w K mg base 1 "_law_take" P__law_take f__law_take) : FnG P w K mg base 2 a fd P__law_mixed (spM K mg 2 f__law_mixed) := by
  refine Fun.dl (N := N__law_mixed) F sc__law_mixed fun cdv A outer s H E W as hr => ?_
  have Sc := sc__law_mixed
  have hu := hr.rm.units
  have hu65 := units65 hr.rm
  have hu1 := units1 hr.rm
  exact (qs_cons (qs_set (i := 2) Sc.nd rfl (by first | exact Or.inl rfl | exact Or.inr rfl) (px_callTy (cx_listM rfl) (by rfl) T.n_list (by decide +kernel) (px_cons (pd_var 1) px_nil)))
    (qs_one (qs_ret (px_callTy cx_tupleX (by rfl) T.n_tuple (by decide +kernel) (px_cons (px_lc (own := [("turn", 3)]) rfl rfl rfl Sc.nd (ix_range1 (by rfl) T.n_range (px_cons (px_callB (cx_len rfl) (by rfl) T.n_len (by decide +kernel) (px_cons (pd_var 2) px_nil)) px_nil)) (by exact blkOk_by (N := N__law_mixed) (sc := defScope s__law_mixed) (own := [("turn", 3)]) (by first | decide +kernel | kernel_rfl | rfl)) (fun s1 H1 C1 cl1 fp1 => (pg_name (i := 3) Sc.nd rfl (by first | exact Or.inl rfl | exact Or.inr rfl))) (tr_name) (fun s1 H1 C1 cl1 fp1 g1 hK1 hM1 => ptsx_nil) (fun s1 H1 C1 cl1 fp1 g1 hK1 hM1 => (px_bm hK1 PySem.F.plainAttrs_list PySem.F.slot_list_pop PySem.F.type_list_pop mx_popAt (pd_var 2) (px_cons (px_callC C__law_take hr (by rfl) hK1 hM1 takes0 (px_cons (pd_var 0) (px_cons (px_callB (cx_len hK1) (by rfl) T.n_len (by decide +kernel) (px_cons (pd_var 2) px_nil)) px_nil))) px_nil)))) px_nil)))))
/-! _law_ops_right -/
abbrev s__law_ops_right : Stmt := topS 51
abbrev N__law_ops_right : List Str := ["pool", "names", "turn", "left", "right", "name"]
abbrev P__law_ops_right : List Str := ["pool"]
noncomputable def q_law_ops_right_b1 : DM Fl := (sIf (eTest (eOp (opEq true) (eCall fRepr (lCons (eTabCall 2 [("plus", f_plus_of), ("minus", f_minus_of), ("times", f_times_of), ("over", f_over_of), ("rest", f_rest_of), ("less", f_less_of), ("same", f_same_of), ("low", f_low_of), ("high", f_high_of)] (eVar 5) (lCons (eVar 3) (lCons (eVar 4) lNil))) lNil)) (eCall fRepr (lCons (mBind (lCons (eVar 5) (lCons (eVar 3) (lCons (eVar 4) lNil))) (callF 3 f__law_made)) lNil)))) (sRet (eK (.bl false))) sNext)
noncomputable def q_law_ops_right_b2 : DM Fl := (sSeq (sPar 3 4 (lCons (mBind (lCons (eVar 0) lNil) (callF 1 f__law_any_worth)) (lCons (mBind (lCons (eVar 0) lNil) (callF 1 f__law_any_worth)) lNil)))
    (sFor [5] (iSeq (eVar 1)) (tgName 5) q_law_ops_right_b1))
noncomputable def m__law_ops_right : DM Fl := (sSeq (sSet 1 (eLst (lCons (eK (.str "high")) (lCons (eK (.str "less")) (lCons (eK (.str "low")) (lCons (eK (.str "minus")) (lCons (eK (.str "over")) (lCons (eK (.str "plus")) (lCons (eK (.str "rest")) (lCons (eK (.str "same")) (lCons (eK (.str "times")) lNil)))))))))))
    (sSeq (sIf (eTest (eOp (opEq true) (eK (.lst (List.map PyData.str ["high", "less", "low", "minus", "over", "plus", "rest", "same", "times"]))) (eVar 1))) (sRet (eK (.bl false))) sNext)
    (sSeq (sFor [2, 3, 4, 5] (iRange1 (lCons (eK (.int 6)) lNil)) (tgName 2) q_law_ops_right_b2)
    (sRet (eK (.bl true))))))
noncomputable def f__law_ops_right : DF := runF 6 m__law_ops_right
theorem sc__law_ops_right : FnScope N__law_ops_right P__law_ops_right (defScope s__law_ops_right) := ⟨rfl, rfl, rfl, by decide +kernel, rfl, by decide +kernel, by decide +kernel⟩
theorem ok__law_ops_right {P : Program} {w : World} {K : PySem.W.Frag} {mg : Str → Option Value} {base : Heap} {a : Addr} {fd : FuncData} (T : Txt K w.params mg) (F : Fun K "_law_ops_right" "_law_ops_right" s__law_ops_right a fd) (C__law_any_worth : Cal P w K mg base 2 "_law_any_worth" P__law_any_worth f__law_any_worth) (C_high_of : Cal P w K mg base 2 "high_of" P_high_of f_high_of) (C_low_of : Cal P w K mg base 2 "low_of" P_low_of f_low_of) (C_same_of : Cal P w K mg base 2 "same_of" P_same_of f_same_of) (C_less_of : Cal P w K mg base 2 "less_of" P_less_of f_less_of) (C_rest_of : Cal P w K mg base 2 "rest_of" P_rest_of f_rest_of) (C_over_of : Cal P w K mg base 2 "over_of" P_over_of f_over_of) (C_times_of : Cal P w K mg base 2 "times_of" P_times_of f_times_of) (C_minus_of : Cal P w K mg base 2 "minus_of" P_minus_of f_minus_of) (C_plus_of : Cal P w K mg base 2 "plus_of" P_plus_of f_plus_of) (C__law_made : Cal P w K mg base 2 "_law_made" P__law_made f__law_made) : FnG P w K mg base 3 a fd P__law_ops_right (spM K mg 1 f__law_ops_right) := by
  refine Fun.dl (N := N__law_ops_right) F sc__law_ops_right fun cdv A outer s H E W as hr => ?_
  have Sc := sc__law_ops_right
  have hu := hr.rm.units
  have hu65 := units65 hr.rm
  have hu1 := units1 hr.rm
  exact (qs_cons (qs_set (i := 1) Sc.nd rfl (by first | exact Or.inl rfl | exact Or.inr rfl) (px_lst (px_cons pd_str (px_cons pd_str (px_cons pd_str (px_cons pd_str (px_cons pd_str (px_cons pd_str (px_cons pd_str (px_cons pd_str (px_cons pd_str px_nil)))))))))))
    (qs_cons (qs_if (pt_cmpX (ox_ne rfl hu) (px_tabSorted T.c_OPS rfl hu (sort_is (by decide) (by decide)) (by decide) (by rfl) T.n_sorted (by rfl)) (pd_var 1) (by rfl)) (qs_one (qs_ret pd_bl)) qs_nil)
    (qs_cons (qs_for (passes_of rfl) rfl (ix_range1 (by rfl) T.n_range (px_cons pd_int px_nil)) (gx_name (i := 2) Sc.nd rfl (by first | exact Or.inl rfl | exact Or.inr rfl)) (qs_cons (qs_par (i := 3) (j := 4) rfl Sc.nd rfl rfl (by decide) rfl rfl (px_cons (px_callC C__law_any_worth hr (by rfl) rfl rfl (takes_of rfl rfl rfl rfl) (px_cons (pd_var 0) px_nil)) (px_cons (px_callC C__law_any_worth hr (by rfl) rfl rfl (takes_of rfl rfl rfl rfl) (px_cons (pd_var 0) px_nil)) px_nil)) rfl)
    (qs_one (qs_for (passes_of rfl) rfl (ix_seq rfl (pd_var 1)) (gx_name (i := 5) Sc.nd rfl (by first | exact Or.inl rfl | exact Or.inr rfl)) (qs_one (qs_if (pt_cmpX (ox_ne rfl hu) (px_callB (cx_repr rfl hu hr.gd) (by rfl) T.n_repr (by decide +kernel) (px_cons (px_tabCall T.c_OPS (TabC.cons C_plus_of rfl (TabC.cons C_minus_of rfl (TabC.cons C_times_of rfl (TabC.cons C_over_of rfl (TabC.cons C_rest_of rfl (TabC.cons C_less_of rfl (TabC.cons C_same_of rfl (TabC.cons C_low_of rfl (TabC.cons C_high_of rfl TabC.nil))))))))) (by rfl) hr rfl rfl (takes_of rfl rfl rfl rfl) (pd_var 5) (px_cons (pd_var 3) (px_cons (pd_var 4) px_nil))) px_nil)) (px_callB (cx_repr rfl hu hr.gd) (by rfl) T.n_repr (by decide +kernel) (px_cons (px_callC C__law_made hr (by rfl) rfl rfl (takes_of rfl rfl rfl rfl) (px_cons (pd_var 5) (px_cons (pd_var 3) (px_cons (pd_var 4) px_nil)))) px_nil)) (by rfl)) (qs_one (qs_ret pd_bl)) qs_nil))))))
    (qs_one (qs_ret pd_bl)))))
/-! law -/
abbrev s_law : Stmt := topS 52
abbrev N_law : List Str := ["script", "k", "pool", "turn", "kind", "term", "worth", "heap", "due", "held", "told", "place", "one"]
abbrev P_law : List Str := ["script"]
noncomputable def qlaw_e1 : DM D := (mBind (lCons (eVar 2) lNil) (callF 1 f__law_any_worth))
noncomputable def qlaw_e2 : DM D := (mBind (lCons (eVar 2) lNil) (callF 1 f__law_any_worth))
noncomputable def qlaw_e3 : DM D := (eCall fRepr (lCons (eVar 12) lNil))
noncomputable def qlaw_b4 : DM Fl := (sSeq (sSet 4 (mBind (lCons (eVar 2) (lCons (eK (.int 2)) lNil)) (callF 2 f__law_take)))
    (sSeq (sSet 5 (eTwo 1 f__law_any_first f__law_any_next (eVar 4) (lCons (eVar 2) lNil)))
    (sSeq (sIf (eTest (eOp (opEq false) (mBind (lCons (eVar 2) (lCons (eK (.int 3)) lNil)) (callF 2 f__law_take)) (eK (.int 0)))) (sSet 5 (mBind (lCons (eVar 2) (lCons (mBind (lCons (eVar 4) lNil) (callF 1 f__law_leaves)) (lCons (eOp opAdd (eK (.int 39)) (mBind (lCons (eVar 2) (lCons (eK (.int 2)) lNil)) (callF 2 f__law_take))) lNil))) (callF 3 f__law_sized))) sNext)
    (sSeq (sPar 6 7 (lCons (mBind (lCons (eVar 2) lNil) (callF 1 f__law_any_worth)) (lCons (eLc [11] (iRange1 (lCons (mBind (lCons (eVar 2) (lCons (eK (.int 12)) lNil)) (callF 2 f__law_take)) lNil)) (tgName 11) (mRet true) qlaw_e2) lNil)))
    (sSeq (sSet 8 (eCall fRepr (lCons (mBind (lCons (eVar 5) (lCons (eVar 6) (lCons (eVar 7) lNil))) (callF 3 f__law_value)) lNil)))
    (sSeq (sSet 9 (eCall fRepr (lCons (eTup (lCons (eVar 5) (lCons (eVar 6) (lCons (eVar 7) lNil)))) lNil)))
    (sSeq (sSet 10 (eLst (lCons (mBind (lCons (eVar 5) (lCons (eVar 6) (lCons (eCall fTupleX (lCons (eVar 7) lNil)) lNil))) (callF 3 f_comes_to)) (lCons (mBind (lCons (eVar 5) (lCons (eVar 6) (lCons (mBind (lCons (eVar 2) (lCons (eVar 7) lNil)) (callF 2 f__law_mixed)) lNil))) (callF 3 f_comes_to)) lNil))))
    (sSeq (sIf (bOr (eTest (eOp (opEq true) (eLc [12] (iSeq (eVar 10)) (tgName 12) (mRet true) qlaw_e3) (eLst (lCons (eVar 8) (lCons (eVar 8) lNil))))) (eTest (eOp (opEq true) (eCall fRepr (lCons (eTup (lCons (eVar 5) (lCons (eVar 6) (lCons (eVar 7) lNil)))) lNil)) (eVar 9)))) (sRet (eK (.bl false))) sNext)
    (sIf (bAnd (eTest (eOp (opEq false) (eVar 4) (eK (.int 0)))) (eTest (eOp (opEq true) (eCall fRepr (lCons (mBind (lCons (eVar 5) (lCons (eVar 6) (lCons (eOp opMul2 (eTup (lCons (eK (.int 0)) lNil)) (eCall fLen (lCons (eVar 7) lNil))) lNil))) (callF 3 f_comes_to)) lNil)) (eVar 8)))) (sRet (eK (.bl false))) sNext)))))))))
noncomputable def qlaw_b5 : DM Fl := (sSeq (sSet 2 (mBind (lCons (eVar 0) (lCons (eVar 1) lNil)) (callFM 2 f__law_pool)))
    (sSeq (sFor [3, 4, 5, 6, 7, 8, 9, 10] (iRange1 (lCons (eK (.int 6)) lNil)) (tgName 3) qlaw_b4)
    (sIf (bNot (eTru (mBind (lCons (eVar 2) lNil) (callF 1 f__law_ops_right)))) (sRet (eK (.bl false))) sNext)))
noncomputable def m_law : DM Fl := (sSeq (sFor [1, 2, 3, 4, 5, 6, 7, 8, 9, 10] (iRange1 (lCons (eCall fMax2 (lCons (eK (.int 1)) (lCons (eCall fMin2 (lCons (eK (.int 10)) (lCons (eCall fLen (lCons (eVar 0) lNil)) lNil))) lNil))) lNil)) (tgName 1) qlaw_b5)
    (sRet (eOp (opEq false) (eK (.int 997)) (eK (.int 997)))))
noncomputable def f_law : DF := runF 13 m_law
theorem sc_law : FnScope N_law P_law (defScope s_law) := ⟨rfl, rfl, rfl, by decide +kernel, rfl, by decide +kernel, by decide +kernel⟩
theorem ok_law {P : Program} {w : World} {K : PySem.W.Frag} {mg : Str → Option Value} {base : Heap} {a : Addr} {fd : FuncData} (T : Txt K w.params mg) (F : Fun K "law" "law" s_law a fd) (C__law_pool : Cal P w K mg base 16 "_law_pool" P__law_pool f__law_pool) (C__law_take : Cal P w K mg base 16 "_law_take" P__law_take f__law_take) (C__law_any_first : Cal P w K mg base 16 "_law_any_first" P__law_any_first f__law_any_first) (C__law_any_next : Cal P w K mg base 16 "_law_any_next" P__law_any_next f__law_any_next) (C__law_sized : Cal P w K mg base 16 "_law_sized" P__law_sized f__law_sized) (C__law_leaves : Cal P w K mg base 16 "_law_leaves" P__law_leaves f__law_leaves) (C__law_any_worth : Cal P w K mg base 16 "_law_any_worth" P__law_any_worth f__law_any_worth) (C__law_value : Cal P w K mg base 16 "_law_value" P__law_value f__law_value) (C_comes_to : Cal P w K mg base 16 "comes_to" P_comes_to f_comes_to) (C__law_mixed : Cal P w K mg base 16 "_law_mixed" P__law_mixed f__law_mixed) (C__law_ops_right : Cal P w K mg base 16 "_law_ops_right" P__law_ops_right f__law_ops_right) : FnG P w K mg base 17 a fd P_law (spM K mg 1 f_law) := by
  refine Fun.dl (N := N_law) F sc_law fun cdv A outer s H E W as hr => ?_
  have Sc := sc_law
  have hu := hr.rm.units
  have hu65 := units65 hr.rm
  have hu1 := units1 hr.rm
  exact (qs_cons (qs_for (passes_of rfl) rfl (ix_range1 (by rfl) T.n_range (px_cons (px_callB (cx_max2 rfl) (by rfl) T.n_max (by decide +kernel) (px_cons pd_int (px_cons (px_callB (cx_min2 rfl) (by rfl) T.n_min (by decide +kernel) (px_cons pd_int (px_cons (px_callB (cx_len rfl) (by rfl) T.n_len (by decide +kernel) (px_cons (pd_var 0) px_nil)) px_nil))) px_nil))) px_nil)) (gx_name (i := 1) Sc.nd rfl (by first | exact Or.inl rfl | exact Or.inr rfl)) (qs_cons (qs_set (i := 2) Sc.nd rfl (by first | exact Or.inl rfl | exact Or.inr rfl) (px_callCM C__law_pool hr (by rfl) rfl rfl (takes_of rfl rfl rfl rfl) (px_cons (pd_var 0) (px_cons (pd_var 1) px_nil))))
    (qs_cons (qs_for (passes_of rfl) rfl (ix_range1 (by rfl) T.n_range (px_cons pd_int px_nil)) (gx_name (i := 3) Sc.nd rfl (by first | exact Or.inl rfl | exact Or.inr rfl)) (qs_cons (qs_set (i := 4) Sc.nd rfl (by first | exact Or.inl rfl | exact Or.inr rfl) (px_callC C__law_take hr (by rfl) rfl rfl (takes_of rfl rfl rfl rfl) (px_cons (pd_var 2) (px_cons pd_int px_nil))))
    (qs_cons (qs_set (i := 5) Sc.nd rfl (by first | exact Or.inl rfl | exact Or.inr rfl) (px_two C__law_any_first C__law_any_next (by rfl) (by rfl) hr rfl rfl (takes_of rfl rfl rfl rfl) (pd_var 4) (px_cons (pd_var 2) px_nil) rfl rfl (by decide) (by decide) (by exact fun _ _ => rfl) rfl rfl rfl rfl rfl))
    (qs_cons (qs_if (pt_cmpX (ox_eq rfl hu) (px_callC C__law_take hr (by rfl) rfl rfl (takes_of rfl rfl rfl rfl) (px_cons (pd_var 2) (px_cons pd_int px_nil))) pd_int (by rfl)) (qs_one (qs_set (i := 5) Sc.nd rfl (by first | exact Or.inl rfl | exact Or.inr rfl) (px_callC C__law_sized hr (by rfl) rfl rfl (takes_of rfl rfl rfl rfl) (px_cons (pd_var 2) (px_cons (px_callC C__law_leaves hr (by rfl) rfl rfl (takes_of rfl rfl rfl rfl) (px_cons (pd_var 4) px_nil)) (px_cons (px_op (ox_add rfl) pd_int (px_callC C__law_take hr (by rfl) rfl rfl (takes_of rfl rfl rfl rfl) (px_cons (pd_var 2) (px_cons pd_int px_nil)))) px_nil)))))) qs_nil)
    (qs_cons (qs_par (i := 6) (j := 7) rfl Sc.nd rfl rfl (by decide) rfl rfl (px_cons (px_callC C__law_any_worth hr (by rfl) rfl rfl (takes_of rfl rfl rfl rfl) (px_cons (pd_var 2) px_nil)) (px_cons (px_lc (own := [("place", 11)]) rfl rfl rfl Sc.nd (ix_range1 (by rfl) T.n_range (px_cons (px_callC C__law_take hr (by rfl) rfl rfl (takes_of rfl rfl rfl rfl) (px_cons (pd_var 2) (px_cons pd_int px_nil))) px_nil)) (by exact blkOk_by (N := N_law) (sc := defScope s_law) (own := [("place", 11)]) (by first | decide +kernel | kernel_rfl | rfl)) (fun s1 H1 C1 cl1 fp1 => (pg_name (i := 11) Sc.nd rfl (by first | exact Or.inl rfl | exact Or.inr rfl))) (tr_name) (fun s1 H1 C1 cl1 fp1 g1 hK1 hM1 => ptsx_nil) (fun s1 H1 C1 cl1 fp1 g1 hK1 hM1 => (px_callC C__law_any_worth hr (by rfl) hK1 hM1 takes0 (px_cons (pd_var 2) px_nil)))) px_nil)) rfl)
    (qs_cons (qs_set (i := 8) Sc.nd rfl (by first | exact Or.inl rfl | exact Or.inr rfl) (px_callB (cx_repr rfl hu hr.gd) (by rfl) T.n_repr (by decide +kernel) (px_cons (px_callC C__law_value hr (by rfl) rfl rfl (takes_of rfl rfl rfl rfl) (px_cons (pd_var 5) (px_cons (pd_var 6) (px_cons (pd_var 7) px_nil)))) px_nil)))
    (qs_cons (qs_set (i := 9) Sc.nd rfl (by first | exact Or.inl rfl | exact Or.inr rfl) (px_callB (cx_repr rfl hu hr.gd) (by rfl) T.n_repr (by decide +kernel) (px_cons (px_tup (px_cons (pd_var 5) (px_cons (pd_var 6) (px_cons (pd_var 7) px_nil)))) px_nil)))
    (qs_cons (qs_set (i := 10) Sc.nd rfl (by first | exact Or.inl rfl | exact Or.inr rfl) (px_lst (px_cons (px_callC C_comes_to hr (by rfl) rfl rfl (takes_of rfl rfl rfl rfl) (px_cons (pd_var 5) (px_cons (pd_var 6) (px_cons (px_callTy cx_tupleX (by rfl) T.n_tuple (by decide +kernel) (px_cons (pd_var 7) px_nil)) px_nil)))) (px_cons (px_callC C_comes_to hr (by rfl) rfl rfl (takes_of rfl rfl rfl rfl) (px_cons (pd_var 5) (px_cons (pd_var 6) (px_cons (px_callC C__law_mixed hr (by rfl) rfl rfl (takes_of rfl rfl rfl rfl) (px_cons (pd_var 2) (px_cons (pd_var 7) px_nil))) px_nil)))) px_nil))))
    (qs_cons (qs_if (PW.pt (pw_orX (pt_cmpX (ox_ne rfl hu) (px_lc (own := [("one", 12)]) rfl rfl rfl Sc.nd (ix_seq rfl (pd_var 10)) (by exact blkOk_by (N := N_law) (sc := defScope s_law) (own := [("one", 12)]) (by first | decide +kernel | kernel_rfl | rfl)) (fun s1 H1 C1 cl1 fp1 => (pg_name (i := 12) Sc.nd rfl (by first | exact Or.inl rfl | exact Or.inr rfl))) (tr_name) (fun s1 H1 C1 cl1 fp1 g1 hK1 hM1 => ptsx_nil) (fun s1 H1 C1 cl1 fp1 g1 hK1 hM1 => (px_callB (cx_repr hK1 hu hr.gd) (by rfl) T.n_repr (by decide +kernel) (px_cons (pd_var 12) px_nil)))) (px_lst (px_cons (pd_var 8) (px_cons (pd_var 8) px_nil))) (by rfl)) (pw_or1X (pt_cmpX (ox_ne rfl hu) (px_callB (cx_repr rfl hu hr.gd) (by rfl) T.n_repr (by decide +kernel) (px_cons (px_tup (px_cons (pd_var 5) (px_cons (pd_var 6) (px_cons (pd_var 7) px_nil)))) px_nil)) (pd_var 9) (by rfl))))) (qs_one (qs_ret pd_bl)) qs_nil)
    (qs_one (qs_if (PW.pt (pw_andX (pt_cmpX (ox_eq rfl hu) (pd_var 4) pd_int (by rfl)) (pw_and1X (pt_cmpX (ox_ne rfl hu) (px_callB (cx_repr rfl hu hr.gd) (by rfl) T.n_repr (by decide +kernel) (px_cons (px_callC C_comes_to hr (by rfl) rfl rfl (takes_of rfl rfl rfl rfl) (px_cons (pd_var 5) (px_cons (pd_var 6) (px_cons (px_op (ox_mul2 rfl) (px_tup (px_cons pd_int px_nil)) (px_callB (cx_len rfl) (by rfl) T.n_len (by decide +kernel) (px_cons (pd_var 7) px_nil))) px_nil)))) px_nil)) (pd_var 8) (by rfl))))) (qs_one (qs_ret pd_bl)) qs_nil)))))))))))
    (qs_one (qs_if (pt_notX (pt_tru rfl (px_callC C__law_ops_right hr (by rfl) rfl rfl (takes_of rfl rfl rfl rfl) (px_cons (pd_var 2) px_nil)))) (qs_one (qs_ret pd_bl)) qs_nil)))))
    (qs_one (qs_ret (px_cmp (ox_eq rfl hu) (pd_globI (by rfl) T.c_WORTHS) pd_int (by rfl)))))
/-! what the top has written, the head -/
section
variable {w : World} {K : PySem.W.Frag} {h : Heap} {mg : Str → Option Value}
structure Top (K : PySem.W.Frag) (P : Params) (mg : Str → Option Value) (a0 a1 a2 a3 a4 a5 a6 a7 a8 a9 a10 a11 a12 a13 a14 a15 a16 a17 a18 a19 a20 a21 a22 a23 a24 a25 a26 a27 a28 a29 a30 a31 a32 a33 a34 : Addr) : Prop where
  txt : Txt K P mg
  m0 : mg "_law_pool" = some (.ref a0)
  u0 : ∃ fd, Fun K "_law_pool" "_law_pool" s__law_pool a0 fd
  m1 : mg "_law_take" = some (.ref a1)
  u1 : ∃ fd, Fun K "_law_take" "_law_take" s__law_take a1 fd
  m2 : mg "_law_any_worth" = some (.ref a2)
  u2 : ∃ fd, Fun K "_law_any_worth" "_law_any_worth" s__law_any_worth a2 fd
  m3 : mg "_law_any_term" = some (.ref a3)
  u3 : ∃ fd, Fun K "_law_any_term" "_law_any_term" s__law_any_term a3 fd
  m4 : mg "_law_any_first" = some (.ref a4)
  u4 : ∃ fd, Fun K "_law_any_first" "_law_any_first" s__law_any_first a4 fd
  m5 : mg "_law_any_next" = some (.ref a5)
  u5 : ∃ fd, Fun K "_law_any_next" "_law_any_next" s__law_any_next a5 fd
  m6 : mg "_law_sized" = some (.ref a6)
  u6 : ∃ fd, Fun K "_law_sized" "_law_sized" s__law_sized a6 fd
  m7 : mg "_law_leaves" = some (.ref a7)
  u7 : ∃ fd, Fun K "_law_leaves" "_law_leaves" s__law_leaves a7 fd
  m8 : mg "_law_made" = some (.ref a8)
  u8 : ∃ fd, Fun K "_law_made" "_law_made" s__law_made a8 fd
  m9 : mg "_law_value" = some (.ref a9)
  u9 : ∃ fd, Fun K "_law_value" "_law_value" s__law_value a9 fd
  m10 : mg "is_whole" = some (.ref a10)
  u10 : ∃ fd, Fun K "is_whole" "is_whole" s_is_whole a10 fd
  m11 : mg "is_below" = some (.ref a11)
  u11 : ∃ fd, Fun K "is_below" "is_below" s_is_below a11 fd
  m12 : mg "is_worth" = some (.ref a12)
  u12 : ∃ fd, Fun K "is_worth" "is_worth" s_is_worth a12 fd
  m13 : mg "size_of_leaf" = some (.ref a13)
  u13 : ∃ fd, Fun K "size_of_leaf" "size_of_leaf" s_size_of_leaf a13 fd
  m14 : mg "size_of_term" = some (.ref a14)
  u14 : ∃ fd, Fun K "size_of_term" "size_of_term" s_size_of_term a14 fd
  m15 : mg "is_term_of" = some (.ref a15)
  u15 : ∃ fd, Fun K "is_term_of" "is_term_of" s_is_term_of a15 fd
  m16 : mg "is_first" = some (.ref a16)
  u16 : ∃ fd, Fun K "is_first" "is_first" s_is_first a16 fd
  m17 : mg "is_next" = some (.ref a17)
  u17 : ∃ fd, Fun K "is_next" "is_next" s_is_next a17 fd
  m18 : mg "need_term" = some (.ref a18)
  u18 : ∃ fd, Fun K "need_term" "need_term" s_need_term a18 fd
  m19 : mg "are_below" = some (.ref a19)
  u19 : ∃ fd, Fun K "are_below" "are_below" s_are_below a19 fd
  m20 : mg "high_of" = some (.ref a20)
  u20 : ∃ fd, Fun K "high_of" "high_of" s_high_of a20 fd
  m21 : mg "low_of" = some (.ref a21)
  u21 : ∃ fd, Fun K "low_of" "low_of" s_low_of a21 fd
  m22 : mg "same_of" = some (.ref a22)
  u22 : ∃ fd, Fun K "same_of" "same_of" s_same_of a22 fd
  m23 : mg "less_of" = some (.ref a23)
  u23 : ∃ fd, Fun K "less_of" "less_of" s_less_of a23 fd
  m24 : mg "rest_of" = some (.ref a24)
  u24 : ∃ fd, Fun K "rest_of" "rest_of" s_rest_of a24 fd
  m25 : mg "over_of" = some (.ref a25)
  u25 : ∃ fd, Fun K "over_of" "over_of" s_over_of a25 fd
  m26 : mg "times_of" = some (.ref a26)
  u26 : ∃ fd, Fun K "times_of" "times_of" s_times_of a26 fd
  m27 : mg "minus_of" = some (.ref a27)
  u27 : ∃ fd, Fun K "minus_of" "minus_of" s_minus_of a27 fd
  m28 : mg "plus_of" = some (.ref a28)
  u28 : ∃ fd, Fun K "plus_of" "plus_of" s_plus_of a28 fd
  m29 : mg "leaf_worth" = some (.ref a29)
  u29 : ∃ fd, Fun K "leaf_worth" "leaf_worth" s_leaf_worth a29 fd
  m30 : mg "worth_by" = some (.ref a30)
  u30 : ∃ fd, Fun K "worth_by" "worth_by" s_worth_by a30 fd
  m31 : mg "comes_to" = some (.ref a31)
  u31 : ∃ fd, Fun K "comes_to" "comes_to" s_comes_to a31 fd
  m32 : mg "_law_mixed" = some (.ref a32)
  u32 : ∃ fd, Fun K "_law_mixed" "_law_mixed" s__law_mixed a32 fd
  m33 : mg "_law_ops_right" = some (.ref a33)
  u33 : ∃ fd, Fun K "_law_ops_right" "_law_ops_right" s__law_ops_right a33 fd
  m34 : mg "law" = some (.ref a34)
  u34 : ∃ fd, Fun K "law" "law" s_law a34 fd
theorem top_mk {P : Params} {a0 a1 a2 a3 a4 a5 a6 a7 a8 a9 a10 a11 a12 a13 a14 a15 a16 a17 a18 a19 a20 a21 a22 a23 a24 a25 a26 a27 a28 a29 a30 a31 a32 a33 a34 : Addr} (X : K.In h) (G : h.Ns mainGlobals mg) {od0 an0 od1 an1 od2 an2 od3 an3 od4 an4 od5 an5 od6 an6 od7 an7 od8 an8 od9 an9 od10 an10 od11 an11 od12 an12 od13 an13 od14 an14 od15 an15 od16 an16 od17 an17 od18 an18 od19 an19 od20 an20 od21 an21 od22 an22 od23 an23 od24 an24 od25 an25 od26 an26 od27 an27 od28 an28 od29 an29 od30 an30 od31 an31 od32 an32 od33 an33 od34 an34 : Option Addr} {sl0 sl1 sl2 sl3 sl4 sl5 sl6 sl7 sl8 sl9 sl10 sl11 sl12 sl13 sl14 sl15 sl16 sl17 sl18 sl19 sl20 sl21 sl22 sl23 sl24 sl25 sl26 sl27 sl28 sl29 sl30 sl31 sl32 sl33 sl34 : Array (Option Value)} {oc0 kV0 dc0 pm0 cd0 ct0 oc1 kV1 dc1 pm1 cd1 ct1 oc2 kV2 dc2 pm2 cd2 ct2 oc3 kV3 dc3 pm3 cd3 ct3 oc4 kV4 dc4 pm4 cd4 ct4 oc5 kV5 dc5 pm5 cd5 ct5 oc6 kV6 dc6 pm6 cd6 ct6 oc7 kV7 dc7 pm7 cd7 ct7 oc8 kV8 dc8 pm8 cd8 ct8 oc9 kV9 dc9 pm9 cd9 ct9 oc10 kV10 dc10 pm10 cd10 ct10 oc11 kV11 dc11 pm11 cd11 ct11 oc12 kV12 dc12 pm12 cd12 ct12 oc13 kV13 dc13 pm13 cd13 ct13 oc14 kV14 dc14 pm14 cd14 ct14 oc15 kV15 dc15 pm15 cd15 ct15 oc16 kV16 dc16 pm16 cd16 ct16 oc17 kV17 dc17 pm17 cd17 ct17 oc18 kV18 dc18 pm18 cd18 ct18 oc19 kV19 dc19 pm19 cd19 ct19 oc20 kV20 dc20 pm20 cd20 ct20 oc21 kV21 dc21 pm21 cd21 ct21 oc22 kV22 dc22 pm22 cd22 ct22 oc23 kV23 dc23 pm23 cd23 ct23 oc24 kV24 dc24 pm24 cd24 ct24 oc25 kV25 dc25 pm25 cd25 ct25 oc26 kV26 dc26 pm26 cd26 ct26 oc27 kV27 dc27 pm27 cd27 ct27 oc28 kV28 dc28 pm28 cd28 ct28 oc29 kV29 dc29 pm29 cd29 ct29 oc30 kV30 dc30 pm30 cd30 ct30 oc31 kV31 dc31 pm31 cd31 ct31 oc32 kV32 dc32 pm32 cd32 ct32 oc33 kV33 dc33 pm33 cd33 ct33 oc34 kV34 dc34 pm34 cd34 ct34 : Value} {ty_WORTHS : Tok} {ty_MANY : Tok} {ay_HEAP_LEAVES : Addr} {oy_HEAP_LEAVES : Option Addr} {ny_HEAP_LEAVES : Nat} {sy_HEAP_LEAVES : Array (Option Value)} {ty_HEAP_LEAVES_0 ty_HEAP_LEAVES_1 ty_HEAP_LEAVES_2 : Tok} {ay_OPS : Addr} {ny_OPS : Nat} {ty_OPS_0 ty_OPS_1 ty_OPS_2 ty_OPS_3 ty_OPS_4 ty_OPS_5 ty_OPS_6 ty_OPS_7 ty_OPS_8 : Tok} {ty_IF : Tok} {ty_MOST_DEEP : Tok} {ty_MOST_TERMS : Tok} {ay_FIRST_LEAVES : Addr} {oy_FIRST_LEAVES : Option Addr} {ny_FIRST_LEAVES : Nat} {sy_FIRST_LEAVES : Array (Option Value)} {ty_FIRST_LEAVES_0 ty_FIRST_LEAVES_1 : Tok} {ay_NEXT_LEAVES : Addr} {oy_NEXT_LEAVES : Option Addr} {ny_NEXT_LEAVES : Nat} {sy_NEXT_LEAVES : Array (Option Value)} {ty_NEXT_LEAVES_0 ty_NEXT_LEAVES_1 ty_NEXT_LEAVES_2 ty_NEXT_LEAVES_3 ty_NEXT_LEAVES_4 : Tok} {ty_MOST_SEATS : Tok}
    (g0 : PySem.W.nsIn K mainGlobals "_law_pool" = some (some (.ref a0))) (l0 : K.lookup a0 = some ⟨oc0, od0, .func (PySem.W.fnOf "_law_pool" "_law_pool" (defArgs s__law_pool) (defBody s__law_pool) (defScope s__law_pool) .none kV0 dc0 pm0 an0 cd0 ct0), sl0⟩) (c0 : PySem.W.codeIn K cd0 "_law_pool" = true) (k0 : PySem.W.keepIn K (.ref a0) = true)
    (g1 : PySem.W.nsIn K mainGlobals "_law_take" = some (some (.ref a1))) (l1 : K.lookup a1 = some ⟨oc1, od1, .func (PySem.W.fnOf "_law_take" "_law_take" (defArgs s__law_take) (defBody s__law_take) (defScope s__law_take) .none kV1 dc1 pm1 an1 cd1 ct1), sl1⟩) (c1 : PySem.W.codeIn K cd1 "_law_take" = true) (k1 : PySem.W.keepIn K (.ref a1) = true)
    (g2 : PySem.W.nsIn K mainGlobals "_law_any_worth" = some (some (.ref a2))) (l2 : K.lookup a2 = some ⟨oc2, od2, .func (PySem.W.fnOf "_law_any_worth" "_law_any_worth" (defArgs s__law_any_worth) (defBody s__law_any_worth) (defScope s__law_any_worth) .none kV2 dc2 pm2 an2 cd2 ct2), sl2⟩) (c2 : PySem.W.codeIn K cd2 "_law_any_worth" = true) (k2 : PySem.W.keepIn K (.ref a2) = true)
    (g3 : PySem.W.nsIn K mainGlobals "_law_any_term" = some (some (.ref a3))) (l3 : K.lookup a3 = some ⟨oc3, od3, .func (PySem.W.fnOf "_law_any_term" "_law_any_term" (defArgs s__law_any_term) (defBody s__law_any_term) (defScope s__law_any_term) .none kV3 dc3 pm3 an3 cd3 ct3), sl3⟩) (c3 : PySem.W.codeIn K cd3 "_law_any_term" = true) (k3 : PySem.W.keepIn K (.ref a3) = true)
    (g4 : PySem.W.nsIn K mainGlobals "_law_any_first" = some (some (.ref a4))) (l4 : K.lookup a4 = some ⟨oc4, od4, .func (PySem.W.fnOf "_law_any_first" "_law_any_first" (defArgs s__law_any_first) (defBody s__law_any_first) (defScope s__law_any_first) .none kV4 dc4 pm4 an4 cd4 ct4), sl4⟩) (c4 : PySem.W.codeIn K cd4 "_law_any_first" = true) (k4 : PySem.W.keepIn K (.ref a4) = true)
    (g5 : PySem.W.nsIn K mainGlobals "_law_any_next" = some (some (.ref a5))) (l5 : K.lookup a5 = some ⟨oc5, od5, .func (PySem.W.fnOf "_law_any_next" "_law_any_next" (defArgs s__law_any_next) (defBody s__law_any_next) (defScope s__law_any_next) .none kV5 dc5 pm5 an5 cd5 ct5), sl5⟩) (c5 : PySem.W.codeIn K cd5 "_law_any_next" = true) (k5 : PySem.W.keepIn K (.ref a5) = true)
    (g6 : PySem.W.nsIn K mainGlobals "_law_sized" = some (some (.ref a6))) (l6 : K.lookup a6 = some ⟨oc6, od6, .func (PySem.W.fnOf "_law_sized" "_law_sized" (defArgs s__law_sized) (defBody s__law_sized) (defScope s__law_sized) .none kV6 dc6 pm6 an6 cd6 ct6), sl6⟩) (c6 : PySem.W.codeIn K cd6 "_law_sized" = true) (k6 : PySem.W.keepIn K (.ref a6) = true)
    (g7 : PySem.W.nsIn K mainGlobals "_law_leaves" = some (some (.ref a7))) (l7 : K.lookup a7 = some ⟨oc7, od7, .func (PySem.W.fnOf "_law_leaves" "_law_leaves" (defArgs s__law_leaves) (defBody s__law_leaves) (defScope s__law_leaves) .none kV7 dc7 pm7 an7 cd7 ct7), sl7⟩) (c7 : PySem.W.codeIn K cd7 "_law_leaves" = true) (k7 : PySem.W.keepIn K (.ref a7) = true)
    (g8 : PySem.W.nsIn K mainGlobals "_law_made" = some (some (.ref a8))) (l8 : K.lookup a8 = some ⟨oc8, od8, .func (PySem.W.fnOf "_law_made" "_law_made" (defArgs s__law_made) (defBody s__law_made) (defScope s__law_made) .none kV8 dc8 pm8 an8 cd8 ct8), sl8⟩) (c8 : PySem.W.codeIn K cd8 "_law_made" = true) (k8 : PySem.W.keepIn K (.ref a8) = true)
    (g9 : PySem.W.nsIn K mainGlobals "_law_value" = some (some (.ref a9))) (l9 : K.lookup a9 = some ⟨oc9, od9, .func (PySem.W.fnOf "_law_value" "_law_value" (defArgs s__law_value) (defBody s__law_value) (defScope s__law_value) .none kV9 dc9 pm9 an9 cd9 ct9), sl9⟩) (c9 : PySem.W.codeIn K cd9 "_law_value" = true) (k9 : PySem.W.keepIn K (.ref a9) = true)
    (g10 : PySem.W.nsIn K mainGlobals "is_whole" = some (some (.ref a10))) (l10 : K.lookup a10 = some ⟨oc10, od10, .func (PySem.W.fnOf "is_whole" "is_whole" (defArgs s_is_whole) (defBody s_is_whole) (defScope s_is_whole) .none kV10 dc10 pm10 an10 cd10 ct10), sl10⟩) (c10 : PySem.W.codeIn K cd10 "is_whole" = true) (k10 : PySem.W.keepIn K (.ref a10) = true)
    (g11 : PySem.W.nsIn K mainGlobals "is_below" = some (some (.ref a11))) (l11 : K.lookup a11 = some ⟨oc11, od11, .func (PySem.W.fnOf "is_below" "is_below" (defArgs s_is_below) (defBody s_is_below) (defScope s_is_below) .none kV11 dc11 pm11 an11 cd11 ct11), sl11⟩) (c11 : PySem.W.codeIn K cd11 "is_below" = true) (k11 : PySem.W.keepIn K (.ref a11) = true)
    (g12 : PySem.W.nsIn K mainGlobals "is_worth" = some (some (.ref a12))) (l12 : K.lookup a12 = some ⟨oc12, od12, .func (PySem.W.fnOf "is_worth" "is_worth" (defArgs s_is_worth) (defBody s_is_worth) (defScope s_is_worth) .none kV12 dc12 pm12 an12 cd12 ct12), sl12⟩) (c12 : PySem.W.codeIn K cd12 "is_worth" = true) (k12 : PySem.W.keepIn K (.ref a12) = true)
    (g13 : PySem.W.nsIn K mainGlobals "size_of_leaf" = some (some (.ref a13))) (l13 : K.lookup a13 = some ⟨oc13, od13, .func (PySem.W.fnOf "size_of_leaf" "size_of_leaf" (defArgs s_size_of_leaf) (defBody s_size_of_leaf) (defScope s_size_of_leaf) .none kV13 dc13 pm13 an13 cd13 ct13), sl13⟩) (c13 : PySem.W.codeIn K cd13 "size_of_leaf" = true) (k13 : PySem.W.keepIn K (.ref a13) = true)
    (g14 : PySem.W.nsIn K mainGlobals "size_of_term" = some (some (.ref a14))) (l14 : K.lookup a14 = some ⟨oc14, od14, .func (PySem.W.fnOf "size_of_term" "size_of_term" (defArgs s_size_of_term) (defBody s_size_of_term) (defScope s_size_of_term) .none kV14 dc14 pm14 an14 cd14 ct14), sl14⟩) (c14 : PySem.W.codeIn K cd14 "size_of_term" = true) (k14 : PySem.W.keepIn K (.ref a14) = true)
    (g15 : PySem.W.nsIn K mainGlobals "is_term_of" = some (some (.ref a15))) (l15 : K.lookup a15 = some ⟨oc15, od15, .func (PySem.W.fnOf "is_term_of" "is_term_of" (defArgs s_is_term_of) (defBody s_is_term_of) (defScope s_is_term_of) .none kV15 dc15 pm15 an15 cd15 ct15), sl15⟩) (c15 : PySem.W.codeIn K cd15 "is_term_of" = true) (k15 : PySem.W.keepIn K (.ref a15) = true)
    (g16 : PySem.W.nsIn K mainGlobals "is_first" = some (some (.ref a16))) (l16 : K.lookup a16 = some ⟨oc16, od16, .func (PySem.W.fnOf "is_first" "is_first" (defArgs s_is_first) (defBody s_is_first) (defScope s_is_first) .none kV16 dc16 pm16 an16 cd16 ct16), sl16⟩) (c16 : PySem.W.codeIn K cd16 "is_first" = true) (k16 : PySem.W.keepIn K (.ref a16) = true)
    (g17 : PySem.W.nsIn K mainGlobals "is_next" = some (some (.ref a17))) (l17 : K.lookup a17 = some ⟨oc17, od17, .func (PySem.W.fnOf "is_next" "is_next" (defArgs s_is_next) (defBody s_is_next) (defScope s_is_next) .none kV17 dc17 pm17 an17 cd17 ct17), sl17⟩) (c17 : PySem.W.codeIn K cd17 "is_next" = true) (k17 : PySem.W.keepIn K (.ref a17) = true)
    (g18 : PySem.W.nsIn K mainGlobals "need_term" = some (some (.ref a18))) (l18 : K.lookup a18 = some ⟨oc18, od18, .func (PySem.W.fnOf "need_term" "need_term" (defArgs s_need_term) (defBody s_need_term) (defScope s_need_term) .none kV18 dc18 pm18 an18 cd18 ct18), sl18⟩) (c18 : PySem.W.codeIn K cd18 "need_term" = true) (k18 : PySem.W.keepIn K (.ref a18) = true)
    (g19 : PySem.W.nsIn K mainGlobals "are_below" = some (some (.ref a19))) (l19 : K.lookup a19 = some ⟨oc19, od19, .func (PySem.W.fnOf "are_below" "are_below" (defArgs s_are_below) (defBody s_are_below) (defScope s_are_below) .none kV19 dc19 pm19 an19 cd19 ct19), sl19⟩) (c19 : PySem.W.codeIn K cd19 "are_below" = true) (k19 : PySem.W.keepIn K (.ref a19) = true)
    (g20 : PySem.W.nsIn K mainGlobals "high_of" = some (some (.ref a20))) (l20 : K.lookup a20 = some ⟨oc20, od20, .func (PySem.W.fnOf "high_of" "high_of" (defArgs s_high_of) (defBody s_high_of) (defScope s_high_of) .none kV20 dc20 pm20 an20 cd20 ct20), sl20⟩) (c20 : PySem.W.codeIn K cd20 "high_of" = true) (k20 : PySem.W.keepIn K (.ref a20) = true)
    (g21 : PySem.W.nsIn K mainGlobals "low_of" = some (some (.ref a21))) (l21 : K.lookup a21 = some ⟨oc21, od21, .func (PySem.W.fnOf "low_of" "low_of" (defArgs s_low_of) (defBody s_low_of) (defScope s_low_of) .none kV21 dc21 pm21 an21 cd21 ct21), sl21⟩) (c21 : PySem.W.codeIn K cd21 "low_of" = true) (k21 : PySem.W.keepIn K (.ref a21) = true)
    (g22 : PySem.W.nsIn K mainGlobals "same_of" = some (some (.ref a22))) (l22 : K.lookup a22 = some ⟨oc22, od22, .func (PySem.W.fnOf "same_of" "same_of" (defArgs s_same_of) (defBody s_same_of) (defScope s_same_of) .none kV22 dc22 pm22 an22 cd22 ct22), sl22⟩) (c22 : PySem.W.codeIn K cd22 "same_of" = true) (k22 : PySem.W.keepIn K (.ref a22) = true)
    (g23 : PySem.W.nsIn K mainGlobals "less_of" = some (some (.ref a23))) (l23 : K.lookup a23 = some ⟨oc23, od23, .func (PySem.W.fnOf "less_of" "less_of" (defArgs s_less_of) (defBody s_less_of) (defScope s_less_of) .none kV23 dc23 pm23 an23 cd23 ct23), sl23⟩) (c23 : PySem.W.codeIn K cd23 "less_of" = true) (k23 : PySem.W.keepIn K (.ref a23) = true)
    (g24 : PySem.W.nsIn K mainGlobals "rest_of" = some (some (.ref a24))) (l24 : K.lookup a24 = some ⟨oc24, od24, .func (PySem.W.fnOf "rest_of" "rest_of" (defArgs s_rest_of) (defBody s_rest_of) (defScope s_rest_of) .none kV24 dc24 pm24 an24 cd24 ct24), sl24⟩) (c24 : PySem.W.codeIn K cd24 "rest_of" = true) (k24 : PySem.W.keepIn K (.ref a24) = true)
    (g25 : PySem.W.nsIn K mainGlobals "over_of" = some (some (.ref a25))) (l25 : K.lookup a25 = some ⟨oc25, od25, .func (PySem.W.fnOf "over_of" "over_of" (defArgs s_over_of) (defBody s_over_of) (defScope s_over_of) .none kV25 dc25 pm25 an25 cd25 ct25), sl25⟩) (c25 : PySem.W.codeIn K cd25 "over_of" = true) (k25 : PySem.W.keepIn K (.ref a25) = true)
    (g26 : PySem.W.nsIn K mainGlobals "times_of" = some (some (.ref a26))) (l26 : K.lookup a26 = some ⟨oc26, od26, .func (PySem.W.fnOf "times_of" "times_of" (defArgs s_times_of) (defBody s_times_of) (defScope s_times_of) .none kV26 dc26 pm26 an26 cd26 ct26), sl26⟩) (c26 : PySem.W.codeIn K cd26 "times_of" = true) (k26 : PySem.W.keepIn K (.ref a26) = true)
    (g27 : PySem.W.nsIn K mainGlobals "minus_of" = some (some (.ref a27))) (l27 : K.lookup a27 = some ⟨oc27, od27, .func (PySem.W.fnOf "minus_of" "minus_of" (defArgs s_minus_of) (defBody s_minus_of) (defScope s_minus_of) .none kV27 dc27 pm27 an27 cd27 ct27), sl27⟩) (c27 : PySem.W.codeIn K cd27 "minus_of" = true) (k27 : PySem.W.keepIn K (.ref a27) = true)
    (g28 : PySem.W.nsIn K mainGlobals "plus_of" = some (some (.ref a28))) (l28 : K.lookup a28 = some ⟨oc28, od28, .func (PySem.W.fnOf "plus_of" "plus_of" (defArgs s_plus_of) (defBody s_plus_of) (defScope s_plus_of) .none kV28 dc28 pm28 an28 cd28 ct28), sl28⟩) (c28 : PySem.W.codeIn K cd28 "plus_of" = true) (k28 : PySem.W.keepIn K (.ref a28) = true)
    (g29 : PySem.W.nsIn K mainGlobals "leaf_worth" = some (some (.ref a29))) (l29 : K.lookup a29 = some ⟨oc29, od29, .func (PySem.W.fnOf "leaf_worth" "leaf_worth" (defArgs s_leaf_worth) (defBody s_leaf_worth) (defScope s_leaf_worth) .none kV29 dc29 pm29 an29 cd29 ct29), sl29⟩) (c29 : PySem.W.codeIn K cd29 "leaf_worth" = true) (k29 : PySem.W.keepIn K (.ref a29) = true)
    (g30 : PySem.W.nsIn K mainGlobals "worth_by" = some (some (.ref a30))) (l30 : K.lookup a30 = some ⟨oc30, od30, .func (PySem.W.fnOf "worth_by" "worth_by" (defArgs s_worth_by) (defBody s_worth_by) (defScope s_worth_by) .none kV30 dc30 pm30 an30 cd30 ct30), sl30⟩) (c30 : PySem.W.codeIn K cd30 "worth_by" = true) (k30 : PySem.W.keepIn K (.ref a30) = true)
    (g31 : PySem.W.nsIn K mainGlobals "comes_to" = some (some (.ref a31))) (l31 : K.lookup a31 = some ⟨oc31, od31, .func (PySem.W.fnOf "comes_to" "comes_to" (defArgs s_comes_to) (defBody s_comes_to) (defScope s_comes_to) .none kV31 dc31 pm31 an31 cd31 ct31), sl31⟩) (c31 : PySem.W.codeIn K cd31 "comes_to" = true) (k31 : PySem.W.keepIn K (.ref a31) = true)
    (g32 : PySem.W.nsIn K mainGlobals "_law_mixed" = some (some (.ref a32))) (l32 : K.lookup a32 = some ⟨oc32, od32, .func (PySem.W.fnOf "_law_mixed" "_law_mixed" (defArgs s__law_mixed) (defBody s__law_mixed) (defScope s__law_mixed) .none kV32 dc32 pm32 an32 cd32 ct32), sl32⟩) (c32 : PySem.W.codeIn K cd32 "_law_mixed" = true) (k32 : PySem.W.keepIn K (.ref a32) = true)
    (g33 : PySem.W.nsIn K mainGlobals "_law_ops_right" = some (some (.ref a33))) (l33 : K.lookup a33 = some ⟨oc33, od33, .func (PySem.W.fnOf "_law_ops_right" "_law_ops_right" (defArgs s__law_ops_right) (defBody s__law_ops_right) (defScope s__law_ops_right) .none kV33 dc33 pm33 an33 cd33 ct33), sl33⟩) (c33 : PySem.W.codeIn K cd33 "_law_ops_right" = true) (k33 : PySem.W.keepIn K (.ref a33) = true)
    (g34 : PySem.W.nsIn K mainGlobals "law" = some (some (.ref a34))) (l34 : K.lookup a34 = some ⟨oc34, od34, .func (PySem.W.fnOf "law" "law" (defArgs s_law) (defBody s_law) (defScope s_law) .none kV34 dc34 pm34 an34 cd34 ct34), sl34⟩) (c34 : PySem.W.codeIn K cd34 "law" = true) (k34 : PySem.W.keepIn K (.ref a34) = true)
    (z_abs : PySem.W.nsIn K mainGlobals "abs" = some none)
    (z_all : PySem.W.nsIn K mainGlobals "all" = some none)
    (z_bool : PySem.W.nsIn K mainGlobals "bool" = some none)
    (z_int : PySem.W.nsIn K mainGlobals "int" = some none)
    (z_isinstance : PySem.W.nsIn K mainGlobals "isinstance" = some none)
    (z_len : PySem.W.nsIn K mainGlobals "len" = some none)
    (z_list : PySem.W.nsIn K mainGlobals "list" = some none)
    (z_max : PySem.W.nsIn K mainGlobals "max" = some none)
    (z_min : PySem.W.nsIn K mainGlobals "min" = some none)
    (z_range : PySem.W.nsIn K mainGlobals "range" = some none)
    (z_repr : PySem.W.nsIn K mainGlobals "repr" = some none)
    (z_sorted : PySem.W.nsIn K mainGlobals "sorted" = some none)
    (z_str : PySem.W.nsIn K mainGlobals "str" = some none)
    (z_sum : PySem.W.nsIn K mainGlobals "sum" = some none)
    (z_tuple : PySem.W.nsIn K mainGlobals "tuple" = some none)
    (y_WORTHS : PySem.W.nsIn K mainGlobals "WORTHS" = some (some (.int 997 ty_WORTHS)))
    (y_MANY : PySem.W.nsIn K mainGlobals "MANY" = some (some (.str "many" ty_MANY)))
    (y_HEAP_LEAVES : PySem.W.nsIn K mainGlobals "HEAP_LEAVES" = some (some (.ref ay_HEAP_LEAVES))) (yl_HEAP_LEAVES : K.lookup ay_HEAP_LEAVES = some ⟨.type "tuple", oy_HEAP_LEAVES, .seq (List.toArray [.str "sum" ty_HEAP_LEAVES_0, .str "least" ty_HEAP_LEAVES_1, .str "most" ty_HEAP_LEAVES_2]) ny_HEAP_LEAVES, sy_HEAP_LEAVES⟩)
    (y_OPS : PySem.W.nsIn K mainGlobals "OPS" = some (some (.ref ay_OPS))) (yl_OPS : K.lookup ay_OPS = some ⟨.type "dict", none, .dict (List.toArray [⟨PyData.keyHash P "plus", .str "plus" ty_OPS_0, .ref a28⟩, ⟨PyData.keyHash P "minus", .str "minus" ty_OPS_1, .ref a27⟩, ⟨PyData.keyHash P "times", .str "times" ty_OPS_2, .ref a26⟩, ⟨PyData.keyHash P "over", .str "over" ty_OPS_3, .ref a25⟩, ⟨PyData.keyHash P "rest", .str "rest" ty_OPS_4, .ref a24⟩, ⟨PyData.keyHash P "less", .str "less" ty_OPS_5, .ref a23⟩, ⟨PyData.keyHash P "same", .str "same" ty_OPS_6, .ref a22⟩, ⟨PyData.keyHash P "low", .str "low" ty_OPS_7, .ref a21⟩, ⟨PyData.keyHash P "high", .str "high" ty_OPS_8, .ref a20⟩]) ny_OPS, #[]⟩) (ys_OPS : (ay_OPS == sysModules) = false)
    (y_IF : PySem.W.nsIn K mainGlobals "IF" = some (some (.str "if" ty_IF)))
    (y_MOST_DEEP : PySem.W.nsIn K mainGlobals "MOST_DEEP" = some (some (.int 5 ty_MOST_DEEP)))
    (y_MOST_TERMS : PySem.W.nsIn K mainGlobals "MOST_TERMS" = some (some (.int 40 ty_MOST_TERMS)))
    (y_FIRST_LEAVES : PySem.W.nsIn K mainGlobals "FIRST_LEAVES" = some (some (.ref ay_FIRST_LEAVES))) (yl_FIRST_LEAVES : K.lookup ay_FIRST_LEAVES = some ⟨.type "tuple", oy_FIRST_LEAVES, .seq (List.toArray [.str "word" ty_FIRST_LEAVES_0, .str "ties" ty_FIRST_LEAVES_1]) ny_FIRST_LEAVES, sy_FIRST_LEAVES⟩)
    (y_NEXT_LEAVES : PySem.W.nsIn K mainGlobals "NEXT_LEAVES" = some (some (.ref ay_NEXT_LEAVES))) (yl_NEXT_LEAVES : K.lookup ay_NEXT_LEAVES = some ⟨.type "tuple", oy_NEXT_LEAVES, .seq (List.toArray [.str "own" ty_NEXT_LEAVES_0, .str "ties" ty_NEXT_LEAVES_1, .str "sum" ty_NEXT_LEAVES_2, .str "least" ty_NEXT_LEAVES_3, .str "most" ty_NEXT_LEAVES_4]) ny_NEXT_LEAVES, sy_NEXT_LEAVES⟩)
    (y_MOST_SEATS : PySem.W.nsIn K mainGlobals "MOST_SEATS" = some (some (.int 12 ty_MOST_SEATS)))
    : Top K P mg a0 a1 a2 a3 a4 a5 a6 a7 a8 a9 a10 a11 a12 a13 a14 a15 a16 a17 a18 a19 a20 a21 a22 a23 a24 a25 a26 a27 a28 a29 a30 a31 a32 a33 a34 where
  txt := ⟨PySem.W.mg_none_of X G z_abs, PySem.W.mg_none_of X G z_all, PySem.W.mg_none_of X G z_bool, PySem.W.mg_none_of X G z_int, PySem.W.mg_none_of X G z_isinstance, PySem.W.mg_none_of X G z_len, PySem.W.mg_none_of X G z_list, PySem.W.mg_none_of X G z_max, PySem.W.mg_none_of X G z_min, PySem.W.mg_none_of X G z_range, PySem.W.mg_none_of X G z_repr, PySem.W.mg_none_of X G z_sorted, PySem.W.mg_none_of X G z_str, PySem.W.mg_none_of X G z_sum, PySem.W.mg_none_of X G z_tuple, ⟨_, PySem.W.mg_of X G y_WORTHS⟩, ⟨_, PySem.W.mg_of X G y_MANY⟩, cst_strs (PySem.W.mg_of X G y_HEAP_LEAVES) yl_HEAP_LEAVES (StrsAre.cons (StrsAre.cons (StrsAre.cons StrsAre.nil))), tab_of (PySem.W.mg_of X G y_OPS) yl_OPS ys_OPS (EntsAre.cons (PySem.W.mg_of X G g28) (EntsAre.cons (PySem.W.mg_of X G g27) (EntsAre.cons (PySem.W.mg_of X G g26) (EntsAre.cons (PySem.W.mg_of X G g25) (EntsAre.cons (PySem.W.mg_of X G g24) (EntsAre.cons (PySem.W.mg_of X G g23) (EntsAre.cons (PySem.W.mg_of X G g22) (EntsAre.cons (PySem.W.mg_of X G g21) (EntsAre.cons (PySem.W.mg_of X G g20) EntsAre.nil))))))))), ⟨_, PySem.W.mg_of X G y_IF⟩, ⟨_, PySem.W.mg_of X G y_MOST_DEEP⟩, ⟨_, PySem.W.mg_of X G y_MOST_TERMS⟩, cst_strs (PySem.W.mg_of X G y_FIRST_LEAVES) yl_FIRST_LEAVES (StrsAre.cons (StrsAre.cons StrsAre.nil)), cst_strs (PySem.W.mg_of X G y_NEXT_LEAVES) yl_NEXT_LEAVES (StrsAre.cons (StrsAre.cons (StrsAre.cons (StrsAre.cons (StrsAre.cons StrsAre.nil))))), ⟨_, PySem.W.mg_of X G y_MOST_SEATS⟩⟩
  m0 := PySem.W.mg_of X G g0
  u0 := ⟨_, fun_mk (st := s__law_pool) l0 c0 k0⟩
  m1 := PySem.W.mg_of X G g1
  u1 := ⟨_, fun_mk (st := s__law_take) l1 c1 k1⟩
  m2 := PySem.W.mg_of X G g2
  u2 := ⟨_, fun_mk (st := s__law_any_worth) l2 c2 k2⟩
  m3 := PySem.W.mg_of X G g3
  u3 := ⟨_, fun_mk (st := s__law_any_term) l3 c3 k3⟩
  m4 := PySem.W.mg_of X G g4
  u4 := ⟨_, fun_mk (st := s__law_any_first) l4 c4 k4⟩
  m5 := PySem.W.mg_of X G g5
  u5 := ⟨_, fun_mk (st := s__law_any_next) l5 c5 k5⟩
  m6 := PySem.W.mg_of X G g6
  u6 := ⟨_, fun_mk (st := s__law_sized) l6 c6 k6⟩
  m7 := PySem.W.mg_of X G g7
  u7 := ⟨_, fun_mk (st := s__law_leaves) l7 c7 k7⟩
  m8 := PySem.W.mg_of X G g8
  u8 := ⟨_, fun_mk (st := s__law_made) l8 c8 k8⟩
  m9 := PySem.W.mg_of X G g9
  u9 := ⟨_, fun_mk (st := s__law_value) l9 c9 k9⟩
  m10 := PySem.W.mg_of X G g10
  u10 := ⟨_, fun_mk (st := s_is_whole) l10 c10 k10⟩
  m11 := PySem.W.mg_of X G g11
  u11 := ⟨_, fun_mk (st := s_is_below) l11 c11 k11⟩
  m12 := PySem.W.mg_of X G g12
  u12 := ⟨_, fun_mk (st := s_is_worth) l12 c12 k12⟩
  m13 := PySem.W.mg_of X G g13
  u13 := ⟨_, fun_mk (st := s_size_of_leaf) l13 c13 k13⟩
  m14 := PySem.W.mg_of X G g14
  u14 := ⟨_, fun_mk (st := s_size_of_term) l14 c14 k14⟩
  m15 := PySem.W.mg_of X G g15
  u15 := ⟨_, fun_mk (st := s_is_term_of) l15 c15 k15⟩
  m16 := PySem.W.mg_of X G g16
  u16 := ⟨_, fun_mk (st := s_is_first) l16 c16 k16⟩
  m17 := PySem.W.mg_of X G g17
  u17 := ⟨_, fun_mk (st := s_is_next) l17 c17 k17⟩
  m18 := PySem.W.mg_of X G g18
  u18 := ⟨_, fun_mk (st := s_need_term) l18 c18 k18⟩
  m19 := PySem.W.mg_of X G g19
  u19 := ⟨_, fun_mk (st := s_are_below) l19 c19 k19⟩
  m20 := PySem.W.mg_of X G g20
  u20 := ⟨_, fun_mk (st := s_high_of) l20 c20 k20⟩
  m21 := PySem.W.mg_of X G g21
  u21 := ⟨_, fun_mk (st := s_low_of) l21 c21 k21⟩
  m22 := PySem.W.mg_of X G g22
  u22 := ⟨_, fun_mk (st := s_same_of) l22 c22 k22⟩
  m23 := PySem.W.mg_of X G g23
  u23 := ⟨_, fun_mk (st := s_less_of) l23 c23 k23⟩
  m24 := PySem.W.mg_of X G g24
  u24 := ⟨_, fun_mk (st := s_rest_of) l24 c24 k24⟩
  m25 := PySem.W.mg_of X G g25
  u25 := ⟨_, fun_mk (st := s_over_of) l25 c25 k25⟩
  m26 := PySem.W.mg_of X G g26
  u26 := ⟨_, fun_mk (st := s_times_of) l26 c26 k26⟩
  m27 := PySem.W.mg_of X G g27
  u27 := ⟨_, fun_mk (st := s_minus_of) l27 c27 k27⟩
  m28 := PySem.W.mg_of X G g28
  u28 := ⟨_, fun_mk (st := s_plus_of) l28 c28 k28⟩
  m29 := PySem.W.mg_of X G g29
  u29 := ⟨_, fun_mk (st := s_leaf_worth) l29 c29 k29⟩
  m30 := PySem.W.mg_of X G g30
  u30 := ⟨_, fun_mk (st := s_worth_by) l30 c30 k30⟩
  m31 := PySem.W.mg_of X G g31
  u31 := ⟨_, fun_mk (st := s_comes_to) l31 c31 k31⟩
  m32 := PySem.W.mg_of X G g32
  u32 := ⟨_, fun_mk (st := s__law_mixed) l32 c32 k32⟩
  m33 := PySem.W.mg_of X G g33
  u33 := ⟨_, fun_mk (st := s__law_ops_right) l33 c33 k33⟩
  m34 := PySem.W.mg_of X G g34
  u34 := ⟨_, fun_mk (st := s_law) l34 c34 k34⟩
end
set_option maxHeartbeats 0 in
theorem all_ok {P : Program} {w : World} {K : PySem.W.Frag} {mg : Str → Option Value} {a0 a1 a2 a3 a4 a5 a6 a7 a8 a9 a10 a11 a12 a13 a14 a15 a16 a17 a18 a19 a20 a21 a22 a23 a24 a25 a26 a27 a28 a29 a30 a31 a32 a33 a34 : Addr} (T : Top K w.params mg a0 a1 a2 a3 a4 a5 a6 a7 a8 a9 a10 a11 a12 a13 a14 a15 a16 a17 a18 a19 a20 a21 a22 a23 a24 a25 a26 a27 a28 a29 a30 a31 a32 a33 a34) :
    ∃ fd : FuncData, (∀ (s : Shared) (v : Value), BindsTo s fd ⟨[v], []⟩ [("script", v)]) ∧ ∀ base : Heap, FnG P w K mg base 17 a34 fd P_law (spM K mg 1 f_law) := by
  obtain ⟨fd0, F0⟩ := T.u0
  obtain ⟨fd1, F1⟩ := T.u1
  obtain ⟨fd2, F2⟩ := T.u2
  obtain ⟨fd3, F3⟩ := T.u3
  obtain ⟨fd4, F4⟩ := T.u4
  obtain ⟨fd5, F5⟩ := T.u5
  obtain ⟨fd6, F6⟩ := T.u6
  obtain ⟨fd7, F7⟩ := T.u7
  obtain ⟨fd8, F8⟩ := T.u8
  obtain ⟨fd9, F9⟩ := T.u9
  obtain ⟨fd10, F10⟩ := T.u10
  obtain ⟨fd11, F11⟩ := T.u11
  obtain ⟨fd12, F12⟩ := T.u12
  obtain ⟨fd13, F13⟩ := T.u13
  obtain ⟨fd14, F14⟩ := T.u14
  obtain ⟨fd15, F15⟩ := T.u15
  obtain ⟨fd16, F16⟩ := T.u16
  obtain ⟨fd17, F17⟩ := T.u17
  obtain ⟨fd18, F18⟩ := T.u18
  obtain ⟨fd19, F19⟩ := T.u19
  obtain ⟨fd20, F20⟩ := T.u20
  obtain ⟨fd21, F21⟩ := T.u21
  obtain ⟨fd22, F22⟩ := T.u22
  obtain ⟨fd23, F23⟩ := T.u23
  obtain ⟨fd24, F24⟩ := T.u24
  obtain ⟨fd25, F25⟩ := T.u25
  obtain ⟨fd26, F26⟩ := T.u26
  obtain ⟨fd27, F27⟩ := T.u27
  obtain ⟨fd28, F28⟩ := T.u28
  obtain ⟨fd29, F29⟩ := T.u29
  obtain ⟨fd30, F30⟩ := T.u30
  obtain ⟨fd31, F31⟩ := T.u31
  obtain ⟨fd32, F32⟩ := T.u32
  obtain ⟨fd33, F33⟩ := T.u33
  obtain ⟨fd34, F34⟩ := T.u34
  have b0 := F0.binds (ps := P__law_pool) (fun _ _ _ _ _ _ us hl => match us, hl with | [_, _], _ => rfl)
  have b1 := F1.binds (ps := P__law_take) (fun _ _ _ _ _ _ us hl => match us, hl with | [_, _], _ => rfl)
  have b2 := F2.binds (ps := P__law_any_worth) (fun _ _ _ _ _ _ us hl => match us, hl with | [_], _ => rfl)
  have b3 := F3.binds (ps := P__law_any_term) (fun _ _ _ _ _ _ us hl => match us, hl with | [_, _, _], _ => rfl)
  have b4 := F4.binds (ps := P__law_any_first) (fun _ _ _ _ _ _ us hl => match us, hl with | [_], _ => rfl)
  have b5 := F5.binds (ps := P__law_any_next) (fun _ _ _ _ _ _ us hl => match us, hl with | [_], _ => rfl)
  have b6 := F6.binds (ps := P__law_sized) (fun _ _ _ _ _ _ us hl => match us, hl with | [_, _, _], _ => rfl)
  have b7 := F7.binds (ps := P__law_leaves) (fun _ _ _ _ _ _ us hl => match us, hl with | [_], _ => rfl)
  have b8 := F8.binds (ps := P__law_made) (fun _ _ _ _ _ _ us hl => match us, hl with | [_, _, _], _ => rfl)
  have b9 := F9.binds (ps := P__law_value) (fun _ _ _ _ _ _ us hl => match us, hl with | [_, _, _], _ => rfl)
  have b10 := F10.binds (ps := P_is_whole) (fun _ _ _ _ _ _ us hl => match us, hl with | [_], _ => rfl)
  have b11 := F11.binds (ps := P_is_below) (fun _ _ _ _ _ _ us hl => match us, hl with | [_, _], _ => rfl)
  have b12 := F12.binds (ps := P_is_worth) (fun _ _ _ _ _ _ us hl => match us, hl with | [_], _ => rfl)
  have b13 := F13.binds (ps := P_size_of_leaf) (fun _ _ _ _ _ _ us hl => match us, hl with | [_, _, _], _ => rfl)
  have b14 := F14.binds (ps := P_size_of_term) (fun _ _ _ _ _ _ us hl => match us, hl with | [_, _, _], _ => rfl)
  have b15 := F15.binds (ps := P_is_term_of) (fun _ _ _ _ _ _ us hl => match us, hl with | [_, _], _ => rfl)
  have b16 := F16.binds (ps := P_is_first) (fun _ _ _ _ _ _ us hl => match us, hl with | [_], _ => rfl)
  have b17 := F17.binds (ps := P_is_next) (fun _ _ _ _ _ _ us hl => match us, hl with | [_], _ => rfl)
  have b18 := F18.binds (ps := P_need_term) (fun _ _ _ _ _ _ us hl => match us, hl with | [_], _ => rfl)
  have b19 := F19.binds (ps := P_are_below) (fun _ _ _ _ _ _ us hl => match us, hl with | [_, _], _ => rfl)
  have b20 := F20.binds (ps := P_high_of) (fun _ _ _ _ _ _ us hl => match us, hl with | [_, _], _ => rfl)
  have b21 := F21.binds (ps := P_low_of) (fun _ _ _ _ _ _ us hl => match us, hl with | [_, _], _ => rfl)
  have b22 := F22.binds (ps := P_same_of) (fun _ _ _ _ _ _ us hl => match us, hl with | [_, _], _ => rfl)
  have b23 := F23.binds (ps := P_less_of) (fun _ _ _ _ _ _ us hl => match us, hl with | [_, _], _ => rfl)
  have b24 := F24.binds (ps := P_rest_of) (fun _ _ _ _ _ _ us hl => match us, hl with | [_, _], _ => rfl)
  have b25 := F25.binds (ps := P_over_of) (fun _ _ _ _ _ _ us hl => match us, hl with | [_, _], _ => rfl)
  have b26 := F26.binds (ps := P_times_of) (fun _ _ _ _ _ _ us hl => match us, hl with | [_, _], _ => rfl)
  have b27 := F27.binds (ps := P_minus_of) (fun _ _ _ _ _ _ us hl => match us, hl with | [_, _], _ => rfl)
  have b28 := F28.binds (ps := P_plus_of) (fun _ _ _ _ _ _ us hl => match us, hl with | [_, _], _ => rfl)
  have b29 := F29.binds (ps := P_leaf_worth) (fun _ _ _ _ _ _ us hl => match us, hl with | [_, _, _], _ => rfl)
  have b30 := F30.binds (ps := P_worth_by) (fun _ _ _ _ _ _ us hl => match us, hl with | [_, _, _], _ => rfl)
  have b31 := F31.binds (ps := P_comes_to) (fun _ _ _ _ _ _ us hl => match us, hl with | [_, _, _], _ => rfl)
  have b32 := F32.binds (ps := P__law_mixed) (fun _ _ _ _ _ _ us hl => match us, hl with | [_, _], _ => rfl)
  have b33 := F33.binds (ps := P__law_ops_right) (fun _ _ _ _ _ _ us hl => match us, hl with | [_], _ => rfl)
  have b34 := F34.binds (ps := P_law) (fun _ _ _ _ _ _ us hl => match us, hl with | [_], _ => rfl)
  have C0 : ∀ b : Heap, Cal P w K mg b 1 "_law_pool" P__law_pool f__law_pool := fun b => Cal.of (ok__law_pool T.txt F0) T.m0 F0 b0
  have C1 : ∀ b : Heap, Cal P w K mg b 1 "_law_take" P__law_take f__law_take := fun b => Cal.of (ok__law_take T.txt F1) T.m1 F1 b1
  have C2 : ∀ b : Heap, Cal P w K mg b 2 "_law_any_worth" P__law_any_worth f__law_any_worth := fun b => Cal.of (ok__law_any_worth T.txt F2 (C1 b).mono) T.m2 F2 b2
  have C3 : ∀ b : Heap, Cal P w K mg b 10 "_law_any_term" P__law_any_term f__law_any_term := fun b => Cal.of (ok__law_any_term T.txt F3 T.m3 b3 (C1 b).mono (C2 b).mono) T.m3 F3 b3
  have C4 : ∀ b : Heap, Cal P w K mg b 11 "_law_any_first" P__law_any_first f__law_any_first := fun b => Cal.of (ok__law_any_first T.txt F4 (C3 b).mono (C1 b).mono) T.m4 F4 b4
  have C5 : ∀ b : Heap, Cal P w K mg b 11 "_law_any_next" P__law_any_next f__law_any_next := fun b => Cal.of (ok__law_any_next T.txt F5 (C1 b).mono (C3 b).mono) T.m5 F5 b5
  have C6 : ∀ b : Heap, Cal P w K mg b 9 "_law_sized" P__law_sized f__law_sized := fun b => Cal.of (ok__law_sized T.txt F6 T.m6 b6 (C1 b).mono) T.m6 F6 b6
  have C7 : ∀ b : Heap, Cal P w K mg b 1 "_law_leaves" P__law_leaves f__law_leaves := fun b => Cal.of (ok__law_leaves T.txt F7) T.m7 F7 b7
  have C8 : ∀ b : Heap, Cal P w K mg b 1 "_law_made" P__law_made f__law_made := fun b => Cal.of (ok__law_made T.txt F8) T.m8 F8 b8
  have C9 : ∀ b : Heap, Cal P w K mg b 9 "_law_value" P__law_value f__law_value := fun b => Cal.of (ok__law_value T.txt F9 T.m9 b9 (C8 b).mono) T.m9 F9 b9
  have C10 : ∀ b : Heap, Cal P w K mg b 1 "is_whole" P_is_whole f_is_whole := fun b => Cal.of (ok_is_whole T.txt F10) T.m10 F10 b10
  have C11 : ∀ b : Heap, Cal P w K mg b 2 "is_below" P_is_below f_is_below := fun b => Cal.of (ok_is_below T.txt F11 (C10 b).mono) T.m11 F11 b11
  have C12 : ∀ b : Heap, Cal P w K mg b 3 "is_worth" P_is_worth f_is_worth := fun b => Cal.of (ok_is_worth T.txt F12 (C11 b).mono) T.m12 F12 b12
  have C13 : ∀ b : Heap, Cal P w K mg b 4 "size_of_leaf" P_size_of_leaf f_size_of_leaf := fun b => Cal.of (ok_size_of_leaf T.txt F13 (C12 b).mono) T.m13 F13 b13
  have C14 : ∀ b : Heap, Cal P w K mg b 12 "size_of_term" P_size_of_term f_size_of_term := fun b => Cal.of (ok_size_of_term T.txt F14 T.m14 b14 (C12 b).mono (C13 b).mono) T.m14 F14 b14
  have C15 : ∀ b : Heap, Cal P w K mg b 13 "is_term_of" P_is_term_of f_is_term_of := fun b => Cal.of (ok_is_term_of T.txt F15 (C14 b).mono) T.m15 F15 b15
  have C16 : ∀ b : Heap, Cal P w K mg b 14 "is_first" P_is_first f_is_first := fun b => Cal.of (ok_is_first T.txt F16 (C15 b).mono) T.m16 F16 b16
  have C17 : ∀ b : Heap, Cal P w K mg b 14 "is_next" P_is_next f_is_next := fun b => Cal.of (ok_is_next T.txt F17 (C15 b).mono) T.m17 F17 b17
  have C18 : ∀ b : Heap, Cal P w K mg b 15 "need_term" P_need_term f_need_term := fun b => Cal.of (ok_need_term T.txt F18 (C16 b).mono (C17 b).mono) T.m18 F18 b18
  have C19 : ∀ b : Heap, Cal P w K mg b 3 "are_below" P_are_below f_are_below := fun b => Cal.of (ok_are_below T.txt F19 (C11 b).mono) T.m19 F19 b19
  have C20 : ∀ b : Heap, Cal P w K mg b 1 "high_of" P_high_of f_high_of := fun b => Cal.of (ok_high_of T.txt F20) T.m20 F20 b20
  have C21 : ∀ b : Heap, Cal P w K mg b 1 "low_of" P_low_of f_low_of := fun b => Cal.of (ok_low_of T.txt F21) T.m21 F21 b21
  have C22 : ∀ b : Heap, Cal P w K mg b 1 "same_of" P_same_of f_same_of := fun b => Cal.of (ok_same_of T.txt F22) T.m22 F22 b22
  have C23 : ∀ b : Heap, Cal P w K mg b 1 "less_of" P_less_of f_less_of := fun b => Cal.of (ok_less_of T.txt F23) T.m23 F23 b23
  have C24 : ∀ b : Heap, Cal P w K mg b 1 "rest_of" P_rest_of f_rest_of := fun b => Cal.of (ok_rest_of T.txt F24) T.m24 F24 b24
  have C25 : ∀ b : Heap, Cal P w K mg b 1 "over_of" P_over_of f_over_of := fun b => Cal.of (ok_over_of T.txt F25) T.m25 F25 b25
  have C26 : ∀ b : Heap, Cal P w K mg b 1 "times_of" P_times_of f_times_of := fun b => Cal.of (ok_times_of T.txt F26) T.m26 F26 b26
  have C27 : ∀ b : Heap, Cal P w K mg b 1 "minus_of" P_minus_of f_minus_of := fun b => Cal.of (ok_minus_of T.txt F27) T.m27 F27 b27
  have C28 : ∀ b : Heap, Cal P w K mg b 1 "plus_of" P_plus_of f_plus_of := fun b => Cal.of (ok_plus_of T.txt F28) T.m28 F28 b28
  have C29 : ∀ b : Heap, Cal P w K mg b 1 "leaf_worth" P_leaf_worth f_leaf_worth := fun b => Cal.of (ok_leaf_worth T.txt F29) T.m29 F29 b29
  have C30 : ∀ b : Heap, Cal P w K mg b 9 "worth_by" P_worth_by f_worth_by := fun b => Cal.of (ok_worth_by T.txt F30 T.m30 b30 (C20 b).mono (C21 b).mono (C22 b).mono (C23 b).mono (C24 b).mono (C25 b).mono (C26 b).mono (C27 b).mono (C28 b).mono (C29 b).mono) T.m30 F30 b30
  have C31 : ∀ b : Heap, Cal P w K mg b 16 "comes_to" P_comes_to f_comes_to := fun b => Cal.of (ok_comes_to T.txt F31 (C18 b).mono (C12 b).mono (C19 b).mono (C30 b).mono) T.m31 F31 b31
  have C32 : ∀ b : Heap, Cal P w K mg b 2 "_law_mixed" P__law_mixed f__law_mixed := fun b => Cal.of (ok__law_mixed T.txt F32 (C1 b).mono) T.m32 F32 b32
  have C33 : ∀ b : Heap, Cal P w K mg b 3 "_law_ops_right" P__law_ops_right f__law_ops_right := fun b => Cal.of (ok__law_ops_right T.txt F33 (C2 b).mono (C20 b).mono (C21 b).mono (C22 b).mono (C23 b).mono (C24 b).mono (C25 b).mono (C26 b).mono (C27 b).mono (C28 b).mono (C8 b).mono) T.m33 F33 b33
  refine ⟨fd34, fun s v => ?_, fun b => ok_law T.txt F34 (C0 b).mono (C1 b).mono (C4 b).mono (C5 b).mono (C6 b).mono (C7 b).mono (C2 b).mono (C9 b).mono (C31 b).mono (C32 b).mono (C33 b).mono⟩
  have hb := b34 s [v]
  obtain ⟨oc, od, kV, doc, pm, an, cdv, ct, osl, rfl, lk, hcd⟩ := F34.ex
  exact .of_eq rfl
def TopE (K : PySem.W.Frag) (P : Params) (mg : Str → Option Value) (fa : Addr) : Prop := ∃ a0 a1 a2 a3 a4 a5 a6 a7 a8 a9 a10 a11 a12 a13 a14 a15 a16 a17 a18 a19 a20 a21 a22 a23 a24 a25 a26 a27 a28 a29 a30 a31 a32 a33 : Addr, Top K P mg a0 a1 a2 a3 a4 a5 a6 a7 a8 a9 a10 a11 a12 a13 a14 a15 a16 a17 a18 a19 a20 a21 a22 a23 a24 a25 a26 a27 a28 a29 a30 a31 a32 a33 fa
theorem top_fa {P : Params} {K : PySem.W.Frag} {h : Heap} {mg : Str → Option Value} {fa : Addr} {a0 a1 a2 a3 a4 a5 a6 a7 a8 a9 a10 a11 a12 a13 a14 a15 a16 a17 a18 a19 a20 a21 a22 a23 a24 a25 a26 a27 a28 a29 a30 a31 a32 a33 a34 : Addr} (X : K.In h) (G : h.Ns mainGlobals mg) (hfa : mg "law" = some (.ref fa)) {od0 an0 od1 an1 od2 an2 od3 an3 od4 an4 od5 an5 od6 an6 od7 an7 od8 an8 od9 an9 od10 an10 od11 an11 od12 an12 od13 an13 od14 an14 od15 an15 od16 an16 od17 an17 od18 an18 od19 an19 od20 an20 od21 an21 od22 an22 od23 an23 od24 an24 od25 an25 od26 an26 od27 an27 od28 an28 od29 an29 od30 an30 od31 an31 od32 an32 od33 an33 od34 an34 : Option Addr} {sl0 sl1 sl2 sl3 sl4 sl5 sl6 sl7 sl8 sl9 sl10 sl11 sl12 sl13 sl14 sl15 sl16 sl17 sl18 sl19 sl20 sl21 sl22 sl23 sl24 sl25 sl26 sl27 sl28 sl29 sl30 sl31 sl32 sl33 sl34 : Array (Option Value)} {oc0 kV0 dc0 pm0 cd0 ct0 oc1 kV1 dc1 pm1 cd1 ct1 oc2 kV2 dc2 pm2 cd2 ct2 oc3 kV3 dc3 pm3 cd3 ct3 oc4 kV4 dc4 pm4 cd4 ct4 oc5 kV5 dc5 pm5 cd5 ct5 oc6 kV6 dc6 pm6 cd6 ct6 oc7 kV7 dc7 pm7 cd7 ct7 oc8 kV8 dc8 pm8 cd8 ct8 oc9 kV9 dc9 pm9 cd9 ct9 oc10 kV10 dc10 pm10 cd10 ct10 oc11 kV11 dc11 pm11 cd11 ct11 oc12 kV12 dc12 pm12 cd12 ct12 oc13 kV13 dc13 pm13 cd13 ct13 oc14 kV14 dc14 pm14 cd14 ct14 oc15 kV15 dc15 pm15 cd15 ct15 oc16 kV16 dc16 pm16 cd16 ct16 oc17 kV17 dc17 pm17 cd17 ct17 oc18 kV18 dc18 pm18 cd18 ct18 oc19 kV19 dc19 pm19 cd19 ct19 oc20 kV20 dc20 pm20 cd20 ct20 oc21 kV21 dc21 pm21 cd21 ct21 oc22 kV22 dc22 pm22 cd22 ct22 oc23 kV23 dc23 pm23 cd23 ct23 oc24 kV24 dc24 pm24 cd24 ct24 oc25 kV25 dc25 pm25 cd25 ct25 oc26 kV26 dc26 pm26 cd26 ct26 oc27 kV27 dc27 pm27 cd27 ct27 oc28 kV28 dc28 pm28 cd28 ct28 oc29 kV29 dc29 pm29 cd29 ct29 oc30 kV30 dc30 pm30 cd30 ct30 oc31 kV31 dc31 pm31 cd31 ct31 oc32 kV32 dc32 pm32 cd32 ct32 oc33 kV33 dc33 pm33 cd33 ct33 oc34 kV34 dc34 pm34 cd34 ct34 : Value} {ty_WORTHS : Tok} {ty_MANY : Tok} {ay_HEAP_LEAVES : Addr} {oy_HEAP_LEAVES : Option Addr} {ny_HEAP_LEAVES : Nat} {sy_HEAP_LEAVES : Array (Option Value)} {ty_HEAP_LEAVES_0 ty_HEAP_LEAVES_1 ty_HEAP_LEAVES_2 : Tok} {ay_OPS : Addr} {ny_OPS : Nat} {ty_OPS_0 ty_OPS_1 ty_OPS_2 ty_OPS_3 ty_OPS_4 ty_OPS_5 ty_OPS_6 ty_OPS_7 ty_OPS_8 : Tok} {ty_IF : Tok} {ty_MOST_DEEP : Tok} {ty_MOST_TERMS : Tok} {ay_FIRST_LEAVES : Addr} {oy_FIRST_LEAVES : Option Addr} {ny_FIRST_LEAVES : Nat} {sy_FIRST_LEAVES : Array (Option Value)} {ty_FIRST_LEAVES_0 ty_FIRST_LEAVES_1 : Tok} {ay_NEXT_LEAVES : Addr} {oy_NEXT_LEAVES : Option Addr} {ny_NEXT_LEAVES : Nat} {sy_NEXT_LEAVES : Array (Option Value)} {ty_NEXT_LEAVES_0 ty_NEXT_LEAVES_1 ty_NEXT_LEAVES_2 ty_NEXT_LEAVES_3 ty_NEXT_LEAVES_4 : Tok} {ty_MOST_SEATS : Tok}
    (g0 : PySem.W.nsIn K mainGlobals "_law_pool" = some (some (.ref a0))) (l0 : K.lookup a0 = some ⟨oc0, od0, .func (PySem.W.fnOf "_law_pool" "_law_pool" (defArgs s__law_pool) (defBody s__law_pool) (defScope s__law_pool) .none kV0 dc0 pm0 an0 cd0 ct0), sl0⟩) (c0 : PySem.W.codeIn K cd0 "_law_pool" = true) (k0 : PySem.W.keepIn K (.ref a0) = true)
    (g1 : PySem.W.nsIn K mainGlobals "_law_take" = some (some (.ref a1))) (l1 : K.lookup a1 = some ⟨oc1, od1, .func (PySem.W.fnOf "_law_take" "_law_take" (defArgs s__law_take) (defBody s__law_take) (defScope s__law_take) .none kV1 dc1 pm1 an1 cd1 ct1), sl1⟩) (c1 : PySem.W.codeIn K cd1 "_law_take" = true) (k1 : PySem.W.keepIn K (.ref a1) = true)
    (g2 : PySem.W.nsIn K mainGlobals "_law_any_worth" = some (some (.ref a2))) (l2 : K.lookup a2 = some ⟨oc2, od2, .func (PySem.W.fnOf "_law_any_worth" "_law_any_worth" (defArgs s__law_any_worth) (defBody s__law_any_worth) (defScope s__law_any_worth) .none kV2 dc2 pm2 an2 cd2 ct2), sl2⟩) (c2 : PySem.W.codeIn K cd2 "_law_any_worth" = true) (k2 : PySem.W.keepIn K (.ref a2) = true)
    (g3 : PySem.W.nsIn K mainGlobals "_law_any_term" = some (some (.ref a3))) (l3 : K.lookup a3 = some ⟨oc3, od3, .func (PySem.W.fnOf "_law_any_term" "_law_any_term" (defArgs s__law_any_term) (defBody s__law_any_term) (defScope s__law_any_term) .none kV3 dc3 pm3 an3 cd3 ct3), sl3⟩) (c3 : PySem.W.codeIn K cd3 "_law_any_term" = true) (k3 : PySem.W.keepIn K (.ref a3) = true)
    (g4 : PySem.W.nsIn K mainGlobals "_law_any_first" = some (some (.ref a4))) (l4 : K.lookup a4 = some ⟨oc4, od4, .func (PySem.W.fnOf "_law_any_first" "_law_any_first" (defArgs s__law_any_first) (defBody s__law_any_first) (defScope s__law_any_first) .none kV4 dc4 pm4 an4 cd4 ct4), sl4⟩) (c4 : PySem.W.codeIn K cd4 "_law_any_first" = true) (k4 : PySem.W.keepIn K (.ref a4) = true)
    (g5 : PySem.W.nsIn K mainGlobals "_law_any_next" = some (some (.ref a5))) (l5 : K.lookup a5 = some ⟨oc5, od5, .func (PySem.W.fnOf "_law_any_next" "_law_any_next" (defArgs s__law_any_next) (defBody s__law_any_next) (defScope s__law_any_next) .none kV5 dc5 pm5 an5 cd5 ct5), sl5⟩) (c5 : PySem.W.codeIn K cd5 "_law_any_next" = true) (k5 : PySem.W.keepIn K (.ref a5) = true)
    (g6 : PySem.W.nsIn K mainGlobals "_law_sized" = some (some (.ref a6))) (l6 : K.lookup a6 = some ⟨oc6, od6, .func (PySem.W.fnOf "_law_sized" "_law_sized" (defArgs s__law_sized) (defBody s__law_sized) (defScope s__law_sized) .none kV6 dc6 pm6 an6 cd6 ct6), sl6⟩) (c6 : PySem.W.codeIn K cd6 "_law_sized" = true) (k6 : PySem.W.keepIn K (.ref a6) = true)
    (g7 : PySem.W.nsIn K mainGlobals "_law_leaves" = some (some (.ref a7))) (l7 : K.lookup a7 = some ⟨oc7, od7, .func (PySem.W.fnOf "_law_leaves" "_law_leaves" (defArgs s__law_leaves) (defBody s__law_leaves) (defScope s__law_leaves) .none kV7 dc7 pm7 an7 cd7 ct7), sl7⟩) (c7 : PySem.W.codeIn K cd7 "_law_leaves" = true) (k7 : PySem.W.keepIn K (.ref a7) = true)
    (g8 : PySem.W.nsIn K mainGlobals "_law_made" = some (some (.ref a8))) (l8 : K.lookup a8 = some ⟨oc8, od8, .func (PySem.W.fnOf "_law_made" "_law_made" (defArgs s__law_made) (defBody s__law_made) (defScope s__law_made) .none kV8 dc8 pm8 an8 cd8 ct8), sl8⟩) (c8 : PySem.W.codeIn K cd8 "_law_made" = true) (k8 : PySem.W.keepIn K (.ref a8) = true)
    (g9 : PySem.W.nsIn K mainGlobals "_law_value" = some (some (.ref a9))) (l9 : K.lookup a9 = some ⟨oc9, od9, .func (PySem.W.fnOf "_law_value" "_law_value" (defArgs s__law_value) (defBody s__law_value) (defScope s__law_value) .none kV9 dc9 pm9 an9 cd9 ct9), sl9⟩) (c9 : PySem.W.codeIn K cd9 "_law_value" = true) (k9 : PySem.W.keepIn K (.ref a9) = true)
    (g10 : PySem.W.nsIn K mainGlobals "is_whole" = some (some (.ref a10))) (l10 : K.lookup a10 = some ⟨oc10, od10, .func (PySem.W.fnOf "is_whole" "is_whole" (defArgs s_is_whole) (defBody s_is_whole) (defScope s_is_whole) .none kV10 dc10 pm10 an10 cd10 ct10), sl10⟩) (c10 : PySem.W.codeIn K cd10 "is_whole" = true) (k10 : PySem.W.keepIn K (.ref a10) = true)
    (g11 : PySem.W.nsIn K mainGlobals "is_below" = some (some (.ref a11))) (l11 : K.lookup a11 = some ⟨oc11, od11, .func (PySem.W.fnOf "is_below" "is_below" (defArgs s_is_below) (defBody s_is_below) (defScope s_is_below) .none kV11 dc11 pm11 an11 cd11 ct11), sl11⟩) (c11 : PySem.W.codeIn K cd11 "is_below" = true) (k11 : PySem.W.keepIn K (.ref a11) = true)
    (g12 : PySem.W.nsIn K mainGlobals "is_worth" = some (some (.ref a12))) (l12 : K.lookup a12 = some ⟨oc12, od12, .func (PySem.W.fnOf "is_worth" "is_worth" (defArgs s_is_worth) (defBody s_is_worth) (defScope s_is_worth) .none kV12 dc12 pm12 an12 cd12 ct12), sl12⟩) (c12 : PySem.W.codeIn K cd12 "is_worth" = true) (k12 : PySem.W.keepIn K (.ref a12) = true)
    (g13 : PySem.W.nsIn K mainGlobals "size_of_leaf" = some (some (.ref a13))) (l13 : K.lookup a13 = some ⟨oc13, od13, .func (PySem.W.fnOf "size_of_leaf" "size_of_leaf" (defArgs s_size_of_leaf) (defBody s_size_of_leaf) (defScope s_size_of_leaf) .none kV13 dc13 pm13 an13 cd13 ct13), sl13⟩) (c13 : PySem.W.codeIn K cd13 "size_of_leaf" = true) (k13 : PySem.W.keepIn K (.ref a13) = true)
    (g14 : PySem.W.nsIn K mainGlobals "size_of_term" = some (some (.ref a14))) (l14 : K.lookup a14 = some ⟨oc14, od14, .func (PySem.W.fnOf "size_of_term" "size_of_term" (defArgs s_size_of_term) (defBody s_size_of_term) (defScope s_size_of_term) .none kV14 dc14 pm14 an14 cd14 ct14), sl14⟩) (c14 : PySem.W.codeIn K cd14 "size_of_term" = true) (k14 : PySem.W.keepIn K (.ref a14) = true)
    (g15 : PySem.W.nsIn K mainGlobals "is_term_of" = some (some (.ref a15))) (l15 : K.lookup a15 = some ⟨oc15, od15, .func (PySem.W.fnOf "is_term_of" "is_term_of" (defArgs s_is_term_of) (defBody s_is_term_of) (defScope s_is_term_of) .none kV15 dc15 pm15 an15 cd15 ct15), sl15⟩) (c15 : PySem.W.codeIn K cd15 "is_term_of" = true) (k15 : PySem.W.keepIn K (.ref a15) = true)
    (g16 : PySem.W.nsIn K mainGlobals "is_first" = some (some (.ref a16))) (l16 : K.lookup a16 = some ⟨oc16, od16, .func (PySem.W.fnOf "is_first" "is_first" (defArgs s_is_first) (defBody s_is_first) (defScope s_is_first) .none kV16 dc16 pm16 an16 cd16 ct16), sl16⟩) (c16 : PySem.W.codeIn K cd16 "is_first" = true) (k16 : PySem.W.keepIn K (.ref a16) = true)
    (g17 : PySem.W.nsIn K mainGlobals "is_next" = some (some (.ref a17))) (l17 : K.lookup a17 = some ⟨oc17, od17, .func (PySem.W.fnOf "is_next" "is_next" (defArgs s_is_next) (defBody s_is_next) (defScope s_is_next) .none kV17 dc17 pm17 an17 cd17 ct17), sl17⟩) (c17 : PySem.W.codeIn K cd17 "is_next" = true) (k17 : PySem.W.keepIn K (.ref a17) = true)
    (g18 : PySem.W.nsIn K mainGlobals "need_term" = some (some (.ref a18))) (l18 : K.lookup a18 = some ⟨oc18, od18, .func (PySem.W.fnOf "need_term" "need_term" (defArgs s_need_term) (defBody s_need_term) (defScope s_need_term) .none kV18 dc18 pm18 an18 cd18 ct18), sl18⟩) (c18 : PySem.W.codeIn K cd18 "need_term" = true) (k18 : PySem.W.keepIn K (.ref a18) = true)
    (g19 : PySem.W.nsIn K mainGlobals "are_below" = some (some (.ref a19))) (l19 : K.lookup a19 = some ⟨oc19, od19, .func (PySem.W.fnOf "are_below" "are_below" (defArgs s_are_below) (defBody s_are_below) (defScope s_are_below) .none kV19 dc19 pm19 an19 cd19 ct19), sl19⟩) (c19 : PySem.W.codeIn K cd19 "are_below" = true) (k19 : PySem.W.keepIn K (.ref a19) = true)
    (g20 : PySem.W.nsIn K mainGlobals "high_of" = some (some (.ref a20))) (l20 : K.lookup a20 = some ⟨oc20, od20, .func (PySem.W.fnOf "high_of" "high_of" (defArgs s_high_of) (defBody s_high_of) (defScope s_high_of) .none kV20 dc20 pm20 an20 cd20 ct20), sl20⟩) (c20 : PySem.W.codeIn K cd20 "high_of" = true) (k20 : PySem.W.keepIn K (.ref a20) = true)
    (g21 : PySem.W.nsIn K mainGlobals "low_of" = some (some (.ref a21))) (l21 : K.lookup a21 = some ⟨oc21, od21, .func (PySem.W.fnOf "low_of" "low_of" (defArgs s_low_of) (defBody s_low_of) (defScope s_low_of) .none kV21 dc21 pm21 an21 cd21 ct21), sl21⟩) (c21 : PySem.W.codeIn K cd21 "low_of" = true) (k21 : PySem.W.keepIn K (.ref a21) = true)
    (g22 : PySem.W.nsIn K mainGlobals "same_of" = some (some (.ref a22))) (l22 : K.lookup a22 = some ⟨oc22, od22, .func (PySem.W.fnOf "same_of" "same_of" (defArgs s_same_of) (defBody s_same_of) (defScope s_same_of) .none kV22 dc22 pm22 an22 cd22 ct22), sl22⟩) (c22 : PySem.W.codeIn K cd22 "same_of" = true) (k22 : PySem.W.keepIn K (.ref a22) = true)
    (g23 : PySem.W.nsIn K mainGlobals "less_of" = some (some (.ref a23))) (l23 : K.lookup a23 = some ⟨oc23, od23, .func (PySem.W.fnOf "less_of" "less_of" (defArgs s_less_of) (defBody s_less_of) (defScope s_less_of) .none kV23 dc23 pm23 an23 cd23 ct23), sl23⟩) (c23 : PySem.W.codeIn K cd23 "less_of" = true) (k23 : PySem.W.keepIn K (.ref a23) = true)
    (g24 : PySem.W.nsIn K mainGlobals "rest_of" = some (some (.ref a24))) (l24 : K.lookup a24 = some ⟨oc24, od24, .func (PySem.W.fnOf "rest_of" "rest_of" (defArgs s_rest_of) (defBody s_rest_of) (defScope s_rest_of) .none kV24 dc24 pm24 an24 cd24 ct24), sl24⟩) (c24 : PySem.W.codeIn K cd24 "rest_of" = true) (k24 : PySem.W.keepIn K (.ref a24) = true)
    (g25 : PySem.W.nsIn K mainGlobals "over_of" = some (some (.ref a25))) (l25 : K.lookup a25 = some ⟨oc25, od25, .func (PySem.W.fnOf "over_of" "over_of" (defArgs s_over_of) (defBody s_over_of) (defScope s_over_of) .none kV25 dc25 pm25 an25 cd25 ct25), sl25⟩) (c25 : PySem.W.codeIn K cd25 "over_of" = true) (k25 : PySem.W.keepIn K (.ref a25) = true)
    (g26 : PySem.W.nsIn K mainGlobals "times_of" = some (some (.ref a26))) (l26 : K.lookup a26 = some ⟨oc26, od26, .func (PySem.W.fnOf "times_of" "times_of" (defArgs s_times_of) (defBody s_times_of) (defScope s_times_of) .none kV26 dc26 pm26 an26 cd26 ct26), sl26⟩) (c26 : PySem.W.codeIn K cd26 "times_of" = true) (k26 : PySem.W.keepIn K (.ref a26) = true)
    (g27 : PySem.W.nsIn K mainGlobals "minus_of" = some (some (.ref a27))) (l27 : K.lookup a27 = some ⟨oc27, od27, .func (PySem.W.fnOf "minus_of" "minus_of" (defArgs s_minus_of) (defBody s_minus_of) (defScope s_minus_of) .none kV27 dc27 pm27 an27 cd27 ct27), sl27⟩) (c27 : PySem.W.codeIn K cd27 "minus_of" = true) (k27 : PySem.W.keepIn K (.ref a27) = true)
    (g28 : PySem.W.nsIn K mainGlobals "plus_of" = some (some (.ref a28))) (l28 : K.lookup a28 = some ⟨oc28, od28, .func (PySem.W.fnOf "plus_of" "plus_of" (defArgs s_plus_of) (defBody s_plus_of) (defScope s_plus_of) .none kV28 dc28 pm28 an28 cd28 ct28), sl28⟩) (c28 : PySem.W.codeIn K cd28 "plus_of" = true) (k28 : PySem.W.keepIn K (.ref a28) = true)
    (g29 : PySem.W.nsIn K mainGlobals "leaf_worth" = some (some (.ref a29))) (l29 : K.lookup a29 = some ⟨oc29, od29, .func (PySem.W.fnOf "leaf_worth" "leaf_worth" (defArgs s_leaf_worth) (defBody s_leaf_worth) (defScope s_leaf_worth) .none kV29 dc29 pm29 an29 cd29 ct29), sl29⟩) (c29 : PySem.W.codeIn K cd29 "leaf_worth" = true) (k29 : PySem.W.keepIn K (.ref a29) = true)
    (g30 : PySem.W.nsIn K mainGlobals "worth_by" = some (some (.ref a30))) (l30 : K.lookup a30 = some ⟨oc30, od30, .func (PySem.W.fnOf "worth_by" "worth_by" (defArgs s_worth_by) (defBody s_worth_by) (defScope s_worth_by) .none kV30 dc30 pm30 an30 cd30 ct30), sl30⟩) (c30 : PySem.W.codeIn K cd30 "worth_by" = true) (k30 : PySem.W.keepIn K (.ref a30) = true)
    (g31 : PySem.W.nsIn K mainGlobals "comes_to" = some (some (.ref a31))) (l31 : K.lookup a31 = some ⟨oc31, od31, .func (PySem.W.fnOf "comes_to" "comes_to" (defArgs s_comes_to) (defBody s_comes_to) (defScope s_comes_to) .none kV31 dc31 pm31 an31 cd31 ct31), sl31⟩) (c31 : PySem.W.codeIn K cd31 "comes_to" = true) (k31 : PySem.W.keepIn K (.ref a31) = true)
    (g32 : PySem.W.nsIn K mainGlobals "_law_mixed" = some (some (.ref a32))) (l32 : K.lookup a32 = some ⟨oc32, od32, .func (PySem.W.fnOf "_law_mixed" "_law_mixed" (defArgs s__law_mixed) (defBody s__law_mixed) (defScope s__law_mixed) .none kV32 dc32 pm32 an32 cd32 ct32), sl32⟩) (c32 : PySem.W.codeIn K cd32 "_law_mixed" = true) (k32 : PySem.W.keepIn K (.ref a32) = true)
    (g33 : PySem.W.nsIn K mainGlobals "_law_ops_right" = some (some (.ref a33))) (l33 : K.lookup a33 = some ⟨oc33, od33, .func (PySem.W.fnOf "_law_ops_right" "_law_ops_right" (defArgs s__law_ops_right) (defBody s__law_ops_right) (defScope s__law_ops_right) .none kV33 dc33 pm33 an33 cd33 ct33), sl33⟩) (c33 : PySem.W.codeIn K cd33 "_law_ops_right" = true) (k33 : PySem.W.keepIn K (.ref a33) = true)
    (g34 : PySem.W.nsIn K mainGlobals "law" = some (some (.ref a34))) (l34 : K.lookup a34 = some ⟨oc34, od34, .func (PySem.W.fnOf "law" "law" (defArgs s_law) (defBody s_law) (defScope s_law) .none kV34 dc34 pm34 an34 cd34 ct34), sl34⟩) (c34 : PySem.W.codeIn K cd34 "law" = true) (k34 : PySem.W.keepIn K (.ref a34) = true)
    (z_abs : PySem.W.nsIn K mainGlobals "abs" = some none)
    (z_all : PySem.W.nsIn K mainGlobals "all" = some none)
    (z_bool : PySem.W.nsIn K mainGlobals "bool" = some none)
    (z_int : PySem.W.nsIn K mainGlobals "int" = some none)
    (z_isinstance : PySem.W.nsIn K mainGlobals "isinstance" = some none)
    (z_len : PySem.W.nsIn K mainGlobals "len" = some none)
    (z_list : PySem.W.nsIn K mainGlobals "list" = some none)
    (z_max : PySem.W.nsIn K mainGlobals "max" = some none)
    (z_min : PySem.W.nsIn K mainGlobals "min" = some none)
    (z_range : PySem.W.nsIn K mainGlobals "range" = some none)
    (z_repr : PySem.W.nsIn K mainGlobals "repr" = some none)
    (z_sorted : PySem.W.nsIn K mainGlobals "sorted" = some none)
    (z_str : PySem.W.nsIn K mainGlobals "str" = some none)
    (z_sum : PySem.W.nsIn K mainGlobals "sum" = some none)
    (z_tuple : PySem.W.nsIn K mainGlobals "tuple" = some none)
    (y_WORTHS : PySem.W.nsIn K mainGlobals "WORTHS" = some (some (.int 997 ty_WORTHS)))
    (y_MANY : PySem.W.nsIn K mainGlobals "MANY" = some (some (.str "many" ty_MANY)))
    (y_HEAP_LEAVES : PySem.W.nsIn K mainGlobals "HEAP_LEAVES" = some (some (.ref ay_HEAP_LEAVES))) (yl_HEAP_LEAVES : K.lookup ay_HEAP_LEAVES = some ⟨.type "tuple", oy_HEAP_LEAVES, .seq (List.toArray [.str "sum" ty_HEAP_LEAVES_0, .str "least" ty_HEAP_LEAVES_1, .str "most" ty_HEAP_LEAVES_2]) ny_HEAP_LEAVES, sy_HEAP_LEAVES⟩)
    (y_OPS : PySem.W.nsIn K mainGlobals "OPS" = some (some (.ref ay_OPS))) (yl_OPS : K.lookup ay_OPS = some ⟨.type "dict", none, .dict (List.toArray [⟨PyData.keyHash P "plus", .str "plus" ty_OPS_0, .ref a28⟩, ⟨PyData.keyHash P "minus", .str "minus" ty_OPS_1, .ref a27⟩, ⟨PyData.keyHash P "times", .str "times" ty_OPS_2, .ref a26⟩, ⟨PyData.keyHash P "over", .str "over" ty_OPS_3, .ref a25⟩, ⟨PyData.keyHash P "rest", .str "rest" ty_OPS_4, .ref a24⟩, ⟨PyData.keyHash P "less", .str "less" ty_OPS_5, .ref a23⟩, ⟨PyData.keyHash P "same", .str "same" ty_OPS_6, .ref a22⟩, ⟨PyData.keyHash P "low", .str "low" ty_OPS_7, .ref a21⟩, ⟨PyData.keyHash P "high", .str "high" ty_OPS_8, .ref a20⟩]) ny_OPS, #[]⟩) (ys_OPS : (ay_OPS == sysModules) = false)
    (y_IF : PySem.W.nsIn K mainGlobals "IF" = some (some (.str "if" ty_IF)))
    (y_MOST_DEEP : PySem.W.nsIn K mainGlobals "MOST_DEEP" = some (some (.int 5 ty_MOST_DEEP)))
    (y_MOST_TERMS : PySem.W.nsIn K mainGlobals "MOST_TERMS" = some (some (.int 40 ty_MOST_TERMS)))
    (y_FIRST_LEAVES : PySem.W.nsIn K mainGlobals "FIRST_LEAVES" = some (some (.ref ay_FIRST_LEAVES))) (yl_FIRST_LEAVES : K.lookup ay_FIRST_LEAVES = some ⟨.type "tuple", oy_FIRST_LEAVES, .seq (List.toArray [.str "word" ty_FIRST_LEAVES_0, .str "ties" ty_FIRST_LEAVES_1]) ny_FIRST_LEAVES, sy_FIRST_LEAVES⟩)
    (y_NEXT_LEAVES : PySem.W.nsIn K mainGlobals "NEXT_LEAVES" = some (some (.ref ay_NEXT_LEAVES))) (yl_NEXT_LEAVES : K.lookup ay_NEXT_LEAVES = some ⟨.type "tuple", oy_NEXT_LEAVES, .seq (List.toArray [.str "own" ty_NEXT_LEAVES_0, .str "ties" ty_NEXT_LEAVES_1, .str "sum" ty_NEXT_LEAVES_2, .str "least" ty_NEXT_LEAVES_3, .str "most" ty_NEXT_LEAVES_4]) ny_NEXT_LEAVES, sy_NEXT_LEAVES⟩)
    (y_MOST_SEATS : PySem.W.nsIn K mainGlobals "MOST_SEATS" = some (some (.int 12 ty_MOST_SEATS)))
    : TopE K P mg fa := by
  have T := top_mk X G g0 l0 c0 k0 g1 l1 c1 k1 g2 l2 c2 k2 g3 l3 c3 k3 g4 l4 c4 k4 g5 l5 c5 k5 g6 l6 c6 k6 g7 l7 c7 k7 g8 l8 c8 k8 g9 l9 c9 k9 g10 l10 c10 k10 g11 l11 c11 k11 g12 l12 c12 k12 g13 l13 c13 k13 g14 l14 c14 k14 g15 l15 c15 k15 g16 l16 c16 k16 g17 l17 c17 k17 g18 l18 c18 k18 g19 l19 c19 k19 g20 l20 c20 k20 g21 l21 c21 k21 g22 l22 c22 k22 g23 l23 c23 k23 g24 l24 c24 k24 g25 l25 c25 k25 g26 l26 c26 k26 g27 l27 c27 k27 g28 l28 c28 k28 g29 l29 c29 k29 g30 l30 c30 k30 g31 l31 c31 k31 g32 l32 c32 k32 g33 l33 c33 k33 g34 l34 c34 k34 z_abs z_all z_bool z_int z_isinstance z_len z_list z_max z_min z_range z_repr z_sorted z_str z_sum z_tuple y_WORTHS y_MANY y_HEAP_LEAVES yl_HEAP_LEAVES y_OPS yl_OPS ys_OPS y_IF y_MOST_DEEP y_MOST_TERMS y_FIRST_LEAVES yl_FIRST_LEAVES y_NEXT_LEAVES yl_NEXT_LEAVES y_MOST_SEATS
  have e := hfa.symm.trans T.m34
  cases e
  exact ⟨_, _, _, _, _, _, _, _, _, _, _, _, _, _, _, _, _, _, _, _, _, _, _, _, _, _, _, _, _, _, _, _, _, _, T⟩
theorem walk {l : PySem.W.OpenLaw} {q : Program} {loose : List Str} {XP : (Str → Option Value) → Heap → Prop} {YP : World → Heap → Prop} {d : DefRec} {K : Params → PySem.W.Frag} (hn : l.most = some 63) (hdf : d.params.defaults = []) (hNL : ∀ w : World, noLst (K w.params) = true)
    (hY : ∀ (w : World) (h : Heap), YP w h → (K w.params).In h) (F : ∀ (w : World) (mg : Str → Option Value) (fa : Addr) (h : Heap), (K w.params).In h → h.Ns mainGlobals mg → mg d.name = some (.ref fa) → TopE (K w.params) w.params mg fa)
    (hlaw : ∀ ns : List Int, ns.length ≤ 63 → f_law [.lst (ns.map .int)] [] = .ok (.bl true) []) :
    PySem.W.WalkO q loose XP YP l.row.toRowW d [] (fun f vs => PySem.call f vs) :=
  walk_ofG (n := 63) (k := 17) (x := "script") (sp := fun w => spE (K w.params) f_law) hn (by decide) hdf ⟨⟨rfl, by decide, by decide⟩, rfl⟩ hNL hY
    (fun w mg fa h KX G hmg => let ⟨_, _, _, _, _, _, _, _, _, _, _, _, _, _, _, _, _, _, _, _, _, _, _, _, _, _, _, _, _, _, _, _, _, _, T⟩ := F w mg fa h KX G hmg; let ⟨fd, hb, hF⟩ := all_ok T; ⟨fd, hb, fun base _ _ => (hF base).toE⟩)
    (fun w H a ns hl hS => spE_law hlaw hl hS) fun w H s e s2 z => noX z
end K04
end
section
namespace K04
open PySem PySem.Spec PyProof.Rows L2 DL
theorem le_size {n : Nat} (h : n ≤ 100000) : n ≤ sizeLine := by rw [sizeLine_eq]; omega
/-! ### worths -/
theorem is_whole_int (i : Int) : f_is_whole [.int i] [] = .ok (.bl true) [] := by
  refine runF_pure (S' := []) ?_
  simp [m_is_whole, startD, isTy]
theorem is_below_int (i m : Int) : f_is_below [.int i, .int m] [] = .ok (.bl (decide (0 ≤ i) && decide (i < m))) [] := by
  have h := fun σ S => callF_pd (n := 1) (is_whole_int i) rfl rfl rfl rfl σ S
  refine runF_pure (S' := []) ?_
  simp [m_is_below, startD, h]
  by_cases hi : 0 ≤ i <;> simp [hi]
theorem is_worth_int (i : Int) : f_is_worth [.int i] [] = .ok (.bl (decide (0 ≤ i) && decide (i < 997))) [] := by
  have h := fun σ S => callF_pd (n := 2) (is_below_int i 997) rfl rfl rfl rfl σ S
  refine runF_pure (S' := []) ?_
  show m_is_worth [some (.int i)] [] = _
  unfold m_is_worth
  exact sRet_ok (call2_ok (d := .int i) (e := .int 997) rfl rfl (h _ _))
/-- what is no int is no worth -/
def notInt : PyData → Bool
  | .int _ => false
  | .bool _ => false
  | _ => true
theorem is_whole_not {x : PyData} (h : notInt x = true) : f_is_whole [.pd x] [] = .ok (.bl false) [] := by
  refine runF_pure (S' := []) ?_
  cases x <;> first | (exact absurd h Bool.false_ne_true) | simp [m_is_whole, startD, isTy]
theorem is_below_not {x : PyData} (hx : notInt x = true) (m : Int) : f_is_below [.pd x, .int m] [] = .ok (.bl false) [] := by
  have h := fun σ S => callF_pd (n := 1) (is_whole_not hx) rfl rfl rfl rfl σ S
  refine runF_pure (S' := []) ?_
  simp [m_is_below, startD, h]
theorem is_worth_not {x : PyData} (hx : notInt x = true) : f_is_worth [.pd x] [] = .ok (.bl false) [] := by
  have h := fun σ S => callF_pd (n := 2) (is_below_not hx 997) rfl rfl rfl rfl σ S
  refine runF_pure (S' := []) ?_
  show m_is_worth [some (.pd x)] [] = _
  unfold m_is_worth
  exact sRet_ok (call2_ok (d := .pd x) (e := .int 997) rfl rfl (h _ _))
/-! ### how many terms -/
abbrev optD := optN
theorem leaf_ok {x : Str} (hx : x ∈ tmLvs) {ls : List Str} (hl : ∀ z ∈ ls, z ∈ tmWords) : f_size_of_leaf [.str x, .lst [], .tup (ls.map .str)] [] = .ok (.pd (if x ∈ ls then .int 1 else .none)) [] := by
  have h1 := fun S => opIn_str (lvs_words x hx) hl false S
  have hm : decide (x = ("many" : Str)) = false := decide_eq_false (lvs_not x hx).1
  have he := fun S => opEq_ex false (x := .list []) (y := .list []) (by decide) (by decide) S
  refine runF_pure (S' := []) ?_
  show m_size_of_leaf [some (.str x), some (.lst []), some (.tup (ls.map .str))] [] = _
  unfold m_size_of_leaf
  have e1 : (sIf (eTest (eOp (opEq false) (eVar 0) (eK (.str "many")))) (sRet (eIf (bAnd (eTest (eOp (opIn false) (eOp opIx (eK (.pd (PyData.tuple (List.map PyData.str ["sum", "least", "most"])))) (eK (.int 0))) (eVar 2))) (bAnd (eTest (eOp (opEq false) (eCall fLen (lCons (eVar 1) lNil)) (eK (.int 1)))) (eTru (mBind (lCons (eOp opIx (eVar 1) (eK (.int 0))) lNil) (callF 1 f_is_worth))))) (eK (.int 1)) (eK .non))) sNext) [some (.str x), some (.lst []), some (.tup (ls.map .str))] [] = .ok (.next [some (.str x), some (.lst []), some (.tup (ls.map .str))]) [] := by
    simp only [Out.bind_ok, mBind_app, mRet_app, eVar_0, eVar_1, eVar_2, eVar_3, eVar_4, eVar_5, eVar_6, eVar_7, eVar_8, eVar_9, eVar_10, eK_app, eOp_app, asB_bl, eTest_app, tru_bl, eTru_app, eChain_app, bNot_app, bAnd_app, bOr_app, eNot_app, eAnd_app, eOr_app, eIf_app, eUn_app, lNil_app, lCons_app, eTup_app, eLst_app, eLstM_app, eCall_app, eSlice_app, asI_int, eMeth_app, sNext_app, sNever_app, sBrk_app, sCont_app, sSeq_app, sSet_app, sExpr_app, sRet_app, sRetN_app, sIf_app, sAsg_app, eRg1_app, eIsI_app, opAdd_int, opSub_int, opCmpI_int, opLt_int, opEq_int, tgName_app, tgNil_app, tgCons_app, tgTup_app, clr_nil', clr_cons', ofO_some, opIx_tup0, opIx_tup1, fLen_tup, fLen_lst, fTuple_lst, startD, isTy, List.map_cons, List.map_nil, List.length_cons, List.length_nil, List.cons_append, List.nil_append, List.replicate, Nat.reduceAdd, Nat.reduceSub, List.set_cons_zero, List.set_cons_succ, reduceIte, eq_self, Bool.false_eq_true, Bool.not_true, Bool.not_false, Option.bind_some, Bool.xor_false, Bool.xor_true, decide_true, decide_false, opEq_str, hm]
  refine (sSeq_next e1).trans (sRet_ok ?_)
  simp only [Out.bind_ok, mBind_app, mRet_app, eVar_0, eVar_1, eVar_2, eVar_3, eVar_4, eVar_5, eVar_6, eVar_7, eVar_8, eVar_9, eVar_10, eK_app, eOp_app, asB_bl, eTest_app, tru_bl, eTru_app, eChain_app, bNot_app, bAnd_app, bOr_app, eNot_app, eAnd_app, eOr_app, eIf_app, eUn_app, lNil_app, lCons_app, eTup_app, eLst_app, eLstM_app, eCall_app, eSlice_app, asI_int, eMeth_app, sNext_app, sNever_app, sBrk_app, sCont_app, sSeq_app, sSet_app, sExpr_app, sRet_app, sRetN_app, sIf_app, sAsg_app, eRg1_app, eIsI_app, opAdd_int, opSub_int, opCmpI_int, opLt_int, opEq_int, tgName_app, tgNil_app, tgCons_app, tgTup_app, clr_nil', clr_cons', ofO_some, opIx_tup0, opIx_tup1, fLen_tup, fLen_lst, fTuple_lst, startD, isTy, List.map_cons, List.map_nil, List.length_cons, List.length_nil, List.cons_append, List.nil_append, List.replicate, Nat.reduceAdd, Nat.reduceSub, List.set_cons_zero, List.set_cons_succ, reduceIte, eq_self, Bool.false_eq_true, Bool.not_true, Bool.not_false, Option.bind_some, Bool.xor_false, Bool.xor_true, decide_true, decide_false, h1, mkLst0, he]
  by_cases h : x ∈ ls
  · simp only [h, decide_true, if_true]; rfl
  · simp only [h, decide_false, if_false]; rfl
theorem leaf_many {k : Nat} (hk : k < 997) {ls : List Str} (hl : ∀ z ∈ ls, z ∈ tmWords) : f_size_of_leaf [.str "many", .lst [.int k], .tup (ls.map .str)] [] = .ok (.pd (if ("sum" : Str) ∈ ls then .int 1 else .none)) [] := by
  have h1 := fun S => opIn_str (x := "sum") (by decide) hl false S
  have h2 := fun σ S => callF_pd (n := 1) (is_worth_int k) rfl rfl rfl rfl σ S
  have h3 : (decide (0 ≤ (k : Int)) && decide ((k : Int) < 997)) = true := by
    simp only [Bool.and_eq_true, decide_eq_true_eq]; omega
  have h4 := fun S => opIx_tup0 (S := S) (PyData.str "sum") (List.map PyData.str ["least", "most"])
  have h5 := fun S => opIx_lstN (S := S) (xs := [PyData.int k]) (i := 0) rfl
  refine runF_pure (S' := []) ?_
  show m_size_of_leaf [some (.str "many"), some (.lst [.int k]), some (.tup (ls.map .str))] [] = _
  unfold m_size_of_leaf
  have e1 : (sIf (eTest (eOp (opEq false) (eVar 0) (eK (.str "many")))) (sRet (eIf (bAnd (eTest (eOp (opIn false) (eOp opIx (eK (.pd (PyData.tuple (List.map PyData.str ["sum", "least", "most"])))) (eK (.int 0))) (eVar 2))) (bAnd (eTest (eOp (opEq false) (eCall fLen (lCons (eVar 1) lNil)) (eK (.int 1)))) (eTru (mBind (lCons (eOp opIx (eVar 1) (eK (.int 0))) lNil) (callF 1 f_is_worth))))) (eK (.int 1)) (eK .non))) sNext) [some (.str "many"), some (.lst [.int k]), some (.tup (ls.map .str))] [] = .ok (.ret (.pd (if ("sum" : Str) ∈ ls then .int 1 else .none))) [] := by
    have h6 : ∀ S, opIx (.lst [PyData.int k]) (.int 0) S = .ok (.pd (.int k)) S := fun S => h5 S
    simp only [Out.bind_ok, mBind_app, mRet_app, eVar_0, eVar_1, eVar_2, eVar_3, eVar_4, eVar_5, eVar_6, eVar_7, eVar_8, eVar_9, eVar_10, eK_app, eOp_app, asB_bl, eTest_app, tru_bl, eTru_app, eChain_app, bNot_app, bAnd_app, bOr_app, eNot_app, eAnd_app, eOr_app, eIf_app, eUn_app, lNil_app, lCons_app, eTup_app, eLst_app, eLstM_app, eCall_app, eSlice_app, asI_int, eMeth_app, sNext_app, sNever_app, sBrk_app, sCont_app, sSeq_app, sSet_app, sExpr_app, sRet_app, sRetN_app, sIf_app, sAsg_app, eRg1_app, eIsI_app, opAdd_int, opSub_int, opCmpI_int, opLt_int, opEq_int, tgName_app, tgNil_app, tgCons_app, tgTup_app, clr_nil', clr_cons', ofO_some, opIx_tup0, opIx_tup1, fLen_tup, fLen_lst, fTuple_lst, startD, isTy, List.map_cons, List.map_nil, List.length_cons, List.length_nil, List.cons_append, List.nil_append, List.replicate, Nat.reduceAdd, Nat.reduceSub, List.set_cons_zero, List.set_cons_succ, reduceIte, eq_self, Bool.false_eq_true, Bool.not_true, Bool.not_false, Option.bind_some, Bool.xor_false, Bool.xor_true, decide_true, decide_false, opEq_str, h4, h1, h6, h2, h3, show decide (((([] : List PyData).length + 1 : Nat) : Int) = 1) = true from rfl]
    by_cases h : ("sum" : Str) ∈ ls
    · simp only [h, decide_true, if_true]; rfl
    · simp only [h, decide_false, if_false]; rfl
  rw [sSeq_app, e1]
  rfl
end K04
end
section
namespace K04
open PySem PySem.Spec PyProof.Rows L2 DL
def szO (ls : List Str) (t : Trm) : Option Nat := if t.inL ls = true then some t.sz else none
theorem sumO_op (ls : List Str) (x : Str) (a b : Trm) : sumO [szO ls a, szO ls b] = szO ls (.op x a b) := by
  unfold szO sumO
  simp only [Trm.inL, Trm.sz]
  by_cases h1 : Trm.inL ls a = true <;> by_cases h2 : Trm.inL ls b = true <;> simp [h1, h2]
theorem sumO_cond (ls : List Str) (c a b : Trm) : sumO [szO ls c, szO ls a, szO ls b] = szO ls (.cond c a b) := by
  unfold szO sumO
  simp only [Trm.inL, Trm.sz]
  by_cases h0 : Trm.inL ls c = true <;> by_cases h1 : Trm.inL ls a = true <;> by_cases h2 : Trm.inL ls b = true <;> simp [h0, h1, h2]
/-- size_of_term, from the words on -/
noncomputable def tailS (R : DF) : DM Fl := (sSeq (sIf (bAnd (eTest (eTabIn true [("plus", "plus_of"), ("minus", "minus_of"), ("times", "times_of"), ("over", "over_of"), ("rest", "rest_of"), ("less", "less_of"), ("same", "same_of"), ("low", "low_of"), ("high", "high_of")] ["if", "law_comeright_k04_what_terms_come_to", "least", "many", "most", "own", "sum", "ties", "word"] (eVar 3))) (eTest (eOp (opEq true) (eVar 3) (eK (.str "if"))))) (sRet (mBind (lCons (eVar 3) (lCons (eVar 4) (lCons (eVar 1) lNil))) (callF 3 f_size_of_leaf))) sNext)
    (sSeq (sIf (bOr (eTest (eOp (opEq false) (eVar 2) (eK (.int 0)))) (eTest (eOp (opEq true) (eCall fLen (lCons (eVar 4) lNil)) (eIf (eTest (eOp (opEq false) (eVar 3) (eK (.str "if")))) (eK (.int 3)) (eK (.int 2)))))) (sRet (eK .non)) sNext)
    (sSeq (sSet 5 (mBind (lcAll [6] (iSeq (eVar 4)) (tgName 6) (mRet true) (qsize_of_term_e1 R)) mkF))
    (sRet (eIf (eTest (eOp (opIn false) (eK .non) (eVar 5))) (eK .non) (eOp opAdd (eK (.int 1)) (eCall fSum1 (lCons (eVar 5) lNil))))))))
theorem size_open {R : DF} {L : D} (x : Str) (r : List PyData) (d : Int) :
    m_size_of_term R [some (.tup (.str x :: r)), some L, some (.int d), none, none, none, none] [] = tailS R [some (.tup (.str x :: r)), some L, some (.int d), some (.str x), some (.lst r), none, none] [] := by
  have hw := fun σ S => callF_pd (n := 1) (is_worth_not (x := .tuple (.str x :: r)) rfl) rfl rfl rfl rfl σ S
  unfold m_size_of_term
  refine (sSeq_next (σ' := [some (.tup (.str x :: r)), some L, some (.int d), none, none, none, none]) (S' := []) (by simp only [Out.bind_ok, mBind_app, mRet_app, eVar_0, eVar_1, eVar_2, eVar_3, eVar_4, eVar_5, eVar_6, eVar_7, eVar_8, eVar_9, eVar_10, eK_app, eOp_app, asB_bl, eTest_app, tru_bl, eTru_app, eChain_app, bNot_app, bAnd_app, bOr_app, eNot_app, eAnd_app, eOr_app, eIf_app, eUn_app, lNil_app, lCons_app, eTup_app, eLst_app, eLstM_app, eCall_app, eSlice_app, asI_int, eMeth_app, sNext_app, sNever_app, sBrk_app, sCont_app, sSeq_app, sSet_app, sExpr_app, sRet_app, sRetN_app, sIf_app, sAsg_app, eRg1_app, eIsI_app, opAdd_int, opSub_int, opCmpI_int, opLt_int, opEq_int, tgName_app, tgNil_app, tgCons_app, tgTup_app, clr_nil', clr_cons', ofO_some, opIx_tup0, opIx_tup1, fLen_tup, fLen_lst, fTuple_lst, startD, isTy, List.map_cons, List.map_nil, List.length_cons, List.length_nil, List.cons_append, List.nil_append, List.replicate, Nat.reduceAdd, Nat.reduceSub, List.set_cons_zero, List.set_cons_succ, reduceIte, eq_self, Bool.false_eq_true, Bool.not_true, Bool.not_false, Option.bind_some, Bool.xor_false, Bool.xor_true, decide_true, decide_false, hw])).trans ?_
  refine (sSeq_next (σ' := [some (.tup (.str x :: r)), some L, some (.int d), none, none, none, none]) (S' := []) (by simp only [Out.bind_ok, mBind_app, mRet_app, eVar_0, eVar_1, eVar_2, eVar_3, eVar_4, eVar_5, eVar_6, eVar_7, eVar_8, eVar_9, eVar_10, eK_app, eOp_app, asB_bl, eTest_app, tru_bl, eTru_app, eChain_app, bNot_app, bAnd_app, bOr_app, eNot_app, eAnd_app, eOr_app, eIf_app, eUn_app, lNil_app, lCons_app, eTup_app, eLst_app, eLstM_app, eCall_app, eSlice_app, asI_int, eMeth_app, sNext_app, sNever_app, sBrk_app, sCont_app, sSeq_app, sSet_app, sExpr_app, sRet_app, sRetN_app, sIf_app, sAsg_app, eRg1_app, eIsI_app, opAdd_int, opSub_int, opCmpI_int, opLt_int, opEq_int, tgName_app, tgNil_app, tgCons_app, tgTup_app, clr_nil', clr_cons', ofO_some, opIx_tup0, opIx_tup1, fLen_tup, fLen_lst, fTuple_lst, startD, isTy, List.map_cons, List.map_nil, List.length_cons, List.length_nil, List.cons_append, List.nil_append, List.replicate, Nat.reduceAdd, Nat.reduceSub, List.set_cons_zero, List.set_cons_succ, reduceIte, eq_self, Bool.false_eq_true, Bool.not_true, Bool.not_false, Option.bind_some, Bool.xor_false, Bool.xor_true, decide_true, decide_false, mkTup0, opEqT_cons])).trans ?_
  refine (sSeq_next (star1_ok (x := .str x) (r := r) (S' := []) rfl)).trans ?_
  rfl
/-- a word of an op, or if: its parts -/
theorem size_parts {R : DF} {ls : List Str} {x : Str} {d : Nat} {ts : List Trm} (hx : x ∈ tmOps ∧ ts.length = 2 ∨ x = "if" ∧ ts.length = 3) (hd : 1 ≤ d)
    (hR : ∀ t ∈ ts, R [.pd t.enc, .tup (ls.map .str), .int ((d : Int) - 1)] [] = .ok (.pd (optD (szO ls t))) []) {T : D} :
    tailS R [some T, some (.tup (ls.map .str)), some (.int d), some (.str x), some (.lst (ts.map Trm.enc)), none, none] [] = .ok (.ret (.pd (optD (sumO (ts.map (szO ls)))))) [] := by
  unfold tailS
  have h0 : decide ((d : Int) = 0) = false := decide_eq_false (by omega)
  refine (sSeq_next (σ' := [some T, some (.tup (ls.map .str)), some (.int d), some (.str x), some (.lst (ts.map Trm.enc)), none, none]) (S' := []) ?_).trans ?_
  · refine (sIf_f (S' := []) ?_).trans rfl
    rcases hx with ⟨hx, _⟩ | ⟨rfl, _⟩
    · rw [bAnd_app, eTest_app, eTabIn_yes (z := x) (S' := [])]
      · rfl
      · rfl
      · exact hx
    · rw [bAnd_app, eTest_app, eTabIn_no (z := "if") (S' := [])]
      · rfl
      · rfl
      · decide
      · decide
  refine (sSeq_next (σ' := [some T, some (.tup (ls.map .str)), some (.int d), some (.str x), some (.lst (ts.map Trm.enc)), none, none]) (S' := []) ?_).trans ?_
  · refine (sIf_f (S' := []) ?_).trans rfl
    rcases hx with ⟨hx, h2⟩ | ⟨rfl, h2⟩
    · have hi : decide (x = ("if" : Str)) = false := decide_eq_false (ops_not x hx).2.1
      simp only [Out.bind_ok, mBind_app, mRet_app, eVar_0, eVar_1, eVar_2, eVar_3, eVar_4, eVar_5, eVar_6, eVar_7, eVar_8, eVar_9, eVar_10, eK_app, eOp_app, asB_bl, eTest_app, tru_bl, eTru_app, eChain_app, bNot_app, bAnd_app, bOr_app, eNot_app, eAnd_app, eOr_app, eIf_app, eUn_app, lNil_app, lCons_app, eTup_app, eLst_app, eLstM_app, eCall_app, eSlice_app, asI_int, eMeth_app, sNext_app, sNever_app, sBrk_app, sCont_app, sSeq_app, sSet_app, sExpr_app, sRet_app, sRetN_app, sIf_app, sAsg_app, eRg1_app, eIsI_app, opAdd_int, opSub_int, opCmpI_int, opLt_int, opEq_int, tgName_app, tgNil_app, tgCons_app, tgTup_app, clr_nil', clr_cons', ofO_some, opIx_tup0, opIx_tup1, fLen_tup, fLen_lst, fTuple_lst, startD, isTy, List.map_cons, List.map_nil, List.length_cons, List.length_nil, List.cons_append, List.nil_append, List.replicate, Nat.reduceAdd, Nat.reduceSub, List.set_cons_zero, List.set_cons_succ, reduceIte, eq_self, Bool.false_eq_true, Bool.not_true, Bool.not_false, Option.bind_some, Bool.xor_false, Bool.xor_true, decide_true, decide_false, h0, opEq_str, hi, List.length_map, h2]
      rfl
    · simp only [Out.bind_ok, mBind_app, mRet_app, eVar_0, eVar_1, eVar_2, eVar_3, eVar_4, eVar_5, eVar_6, eVar_7, eVar_8, eVar_9, eVar_10, eK_app, eOp_app, asB_bl, eTest_app, tru_bl, eTru_app, eChain_app, bNot_app, bAnd_app, bOr_app, eNot_app, eAnd_app, eOr_app, eIf_app, eUn_app, lNil_app, lCons_app, eTup_app, eLst_app, eLstM_app, eCall_app, eSlice_app, asI_int, eMeth_app, sNext_app, sNever_app, sBrk_app, sCont_app, sSeq_app, sSet_app, sExpr_app, sRet_app, sRetN_app, sIf_app, sAsg_app, eRg1_app, eIsI_app, opAdd_int, opSub_int, opCmpI_int, opLt_int, opEq_int, tgName_app, tgNil_app, tgCons_app, tgTup_app, clr_nil', clr_cons', ofO_some, opIx_tup0, opIx_tup1, fLen_tup, fLen_lst, fTuple_lst, startD, isTy, List.map_cons, List.map_nil, List.length_cons, List.length_nil, List.cons_append, List.nil_append, List.replicate, Nat.reduceAdd, Nat.reduceSub, List.set_cons_zero, List.set_cons_succ, reduceIte, eq_self, Bool.false_eq_true, Bool.not_true, Bool.not_false, Option.bind_some, Bool.xor_false, Bool.xor_true, decide_true, decide_false, h0, opEq_str, List.length_map, h2]
      rfl
  have hts : ts.length ≤ 100 := by rcases hx with ⟨_, h⟩ | ⟨_, h⟩ <;> omega
  have e5 : eLc [6] (iSeq (eVar 4)) (tgName 6) (mRet true) (qsize_of_term_e1 R) [some T, some (.tup (ls.map .str)), some (.int d), some (.str x), some (.lst (ts.map Trm.enc)), none, none] [] = .ok (.lst (ts.map fun t => optD (szO ls t))) [] := by
    refine eLc_all (gu := .no) ts (fun t => .pd t.enc) (fun t => optD (szO ls t)) ((iSeq_lst (xs := ts.map Trm.enc) rfl).trans (by rw [List.map_map]; rfl)) (by exact trivial) (fun t ht => ⟨_, rfl, ?_⟩) (le_size (by omega))
    unfold qsize_of_term_e1
    exact call3_ok (d := .pd t.enc) (e := .tup (ls.map .str)) (e3 := .int ((d : Int) - 1)) (S' := []) (S2 := []) (S3 := []) rfl rfl rfl (callF_pd (hR t ht) rfl rfl rfl rfl _ _)
  refine (sSeq_next (sSet_ok e5)).trans ?_
  refine sRet_ok ?_
  have := last_ok (i := 5) (l := ts.map (szO ls)) (σ := [some T, some (.tup (ls.map .str)), some (.int d), some (.str x), some (.lst (ts.map Trm.enc)), some (.lst (ts.map fun t => optD (szO ls t))), none]) (S := []) (by rw [List.map_map]; rfl)
  exact this
theorem size_ok {ls : List Str} (hl : ∀ z ∈ ls, z ∈ tmWords) : ∀ (t : Trm), t.Wf → ∀ (n d : Nat), t.dep ≤ d → t.dep < n → F_size_of_term n [.pd t.enc, .tup (ls.map .str), .int d] [] = .ok (.pd (optD (szO ls t))) []
  | _, _, 0, _, _, h => by omega
  | .num i, hw, n + 1, d, _, _ => by
    have hw : i < 997 := hw
    have h2 := fun σ S => callF_pd (n := 1) (is_worth_int i) rfl rfl rfl rfl σ S
    have h3 : (decide (0 ≤ (i : Int)) && decide ((i : Int) < 997)) = true := by
      simp only [Bool.and_eq_true, decide_eq_true_eq]; omega
    rw [F_size_of_term_succ]
    refine runF_pure (S' := []) ?_
    show m_size_of_term (F_size_of_term n) [some (.int i), some (.tup (ls.map .str)), some (.int d), none, none, none, none] [] = _
    unfold m_size_of_term
    exact sSeq_ret ((sIf_t (by simp only [Out.bind_ok, mBind_app, mRet_app, eVar_0, eVar_1, eVar_2, eVar_3, eVar_4, eVar_5, eVar_6, eVar_7, eVar_8, eVar_9, eVar_10, eK_app, eOp_app, asB_bl, eTest_app, tru_bl, eTru_app, eChain_app, bNot_app, bAnd_app, bOr_app, eNot_app, eAnd_app, eOr_app, eIf_app, eUn_app, lNil_app, lCons_app, eTup_app, eLst_app, eLstM_app, eCall_app, eSlice_app, asI_int, eMeth_app, sNext_app, sNever_app, sBrk_app, sCont_app, sSeq_app, sSet_app, sExpr_app, sRet_app, sRetN_app, sIf_app, sAsg_app, eRg1_app, eIsI_app, opAdd_int, opSub_int, opCmpI_int, opLt_int, opEq_int, tgName_app, tgNil_app, tgCons_app, tgTup_app, clr_nil', clr_cons', ofO_some, opIx_tup0, opIx_tup1, fLen_tup, fLen_lst, fTuple_lst, startD, isTy, List.map_cons, List.map_nil, List.length_cons, List.length_nil, List.cons_append, List.nil_append, List.replicate, Nat.reduceAdd, Nat.reduceSub, List.set_cons_zero, List.set_cons_succ, reduceIte, eq_self, Bool.false_eq_true, Bool.not_true, Bool.not_false, Option.bind_some, Bool.xor_false, Bool.xor_true, decide_true, decide_false, h2, h3])).trans (sRet_ok rfl))
  | .leaf x, hx, n + 1, d, _, _ => by
    have hx : x ∈ tmLvs := hx
    rw [F_size_of_term_succ]
    refine runF_pure (S' := []) ?_
    refine (size_open x [] d).trans ?_
    unfold tailS
    have hl2 : (if x ∈ ls then PyData.int 1 else PyData.none) = optD (szO ls (.leaf x)) := by
      unfold szO
      by_cases h : x ∈ ls <;> simp [Trm.inL, Trm.sz, h, optN]
    refine sSeq_ret ((sIf_t (S' := []) ?_).trans (sRet_ok (call3_ok (d := .str x) (e := .lst []) (e3 := .tup (ls.map .str)) (S' := []) (S2 := []) (S3 := []) rfl rfl rfl (callF_pd (n := 3) (d := .pd (optD (szO ls (.leaf x)))) (by rw [← hl2]; exact leaf_ok hx hl) rfl rfl rfl rfl _ _))))
    have hi : decide (x = ("if" : Str)) = false := decide_eq_false (lvs_not x hx).2.1
    rw [bAnd_app, eTest_app, eTabIn_no (z := x) (S' := [])]
    · simp only [Out.bind_ok, mBind_app, mRet_app, eVar_0, eVar_1, eVar_2, eVar_3, eVar_4, eVar_5, eVar_6, eVar_7, eVar_8, eVar_9, eVar_10, eK_app, eOp_app, asB_bl, eTest_app, tru_bl, eTru_app, eChain_app, bNot_app, bAnd_app, bOr_app, eNot_app, eAnd_app, eOr_app, eIf_app, eUn_app, lNil_app, lCons_app, eTup_app, eLst_app, eLstM_app, eCall_app, eSlice_app, asI_int, eMeth_app, sNext_app, sNever_app, sBrk_app, sCont_app, sSeq_app, sSet_app, sExpr_app, sRet_app, sRetN_app, sIf_app, sAsg_app, eRg1_app, eIsI_app, opAdd_int, opSub_int, opCmpI_int, opLt_int, opEq_int, tgName_app, tgNil_app, tgCons_app, tgTup_app, clr_nil', clr_cons', ofO_some, opIx_tup0, opIx_tup1, fLen_tup, fLen_lst, fTuple_lst, startD, isTy, List.map_cons, List.map_nil, List.length_cons, List.length_nil, List.cons_append, List.nil_append, List.replicate, Nat.reduceAdd, Nat.reduceSub, List.set_cons_zero, List.set_cons_succ, reduceIte, eq_self, Bool.false_eq_true, Bool.not_true, Bool.not_false, Option.bind_some, Bool.xor_false, Bool.xor_true, decide_true, decide_false, opEq_str, hi]
    · rfl
    · exact (lvs_not x hx).2.2
    · have h := hx
      simp only [tmLvs, List.mem_cons, List.not_mem_nil, or_false] at h
      rcases h with rfl | rfl | rfl | rfl | rfl | rfl <;> decide
  | .many k, hk, n + 1, d, _, _ => by
    have hk : k < 997 := hk
    rw [F_size_of_term_succ]
    refine runF_pure (S' := []) ?_
    refine (size_open "many" [.int k] d).trans ?_
    unfold tailS
    have hl2 : (if ("sum" : Str) ∈ ls then PyData.int 1 else PyData.none) = optD (szO ls (.many k)) := by
      unfold szO
      by_cases h : ("sum" : Str) ∈ ls <;> simp [Trm.inL, Trm.sz, h, optN]
    refine sSeq_ret ((sIf_t (S' := []) ?_).trans (sRet_ok (call3_ok (d := .str "many") (e := .lst [.int k]) (e3 := .tup (ls.map .str)) (S' := []) (S2 := []) (S3 := []) rfl rfl rfl (callF_pd (n := 3) (d := .pd (optD (szO ls (.many k)))) (by rw [← hl2]; exact leaf_many hk hl) rfl rfl rfl rfl _ _))))
    rw [bAnd_app, eTest_app, eTabIn_no (z := "many") (S' := [])]
    · rfl
    · rfl
    · decide
    · decide
  | .op x a b, ⟨hx, ha, hb⟩, n + 1, d, hd, hn => by
    have hdd : 1 + max a.dep b.dep ≤ d := hd
    have hnn : 1 + max a.dep b.dep < n + 1 := hn
    rw [F_size_of_term_succ]
    refine runF_pure (S' := []) ?_
    refine (size_open x [a.enc, b.enc] d).trans ?_
    have e1 : ((d : Int) - 1) = ((d - 1 : Nat) : Int) := by omega
    have := size_parts (R := F_size_of_term n) (ls := ls) (x := x) (d := d) (ts := [a, b]) (.inl ⟨hx, rfl⟩) (by omega) (fun t ht => by
      rw [e1]
      simp only [List.mem_cons, List.not_mem_nil, or_false] at ht
      rcases ht with rfl | rfl
      · exact size_ok hl _ ha n (d - 1) (by omega) (by omega)
      · exact size_ok hl _ hb n (d - 1) (by omega) (by omega)) (T := .tup (.str x :: [a.enc, b.enc]))
    rw [show [a, b].map (szO ls) = [szO ls a, szO ls b] from rfl, sumO_op ls x a b] at this
    exact this
  | .cond c a b, ⟨hc, ha, hb⟩, n + 1, d, hd, hn => by
    have hdd : 1 + max c.dep (max a.dep b.dep) ≤ d := hd
    have hnn : 1 + max c.dep (max a.dep b.dep) < n + 1 := hn
    rw [F_size_of_term_succ]
    refine runF_pure (S' := []) ?_
    refine (size_open "if" [c.enc, a.enc, b.enc] d).trans ?_
    have e1 : ((d : Int) - 1) = ((d - 1 : Nat) : Int) := by omega
    have := size_parts (R := F_size_of_term n) (ls := ls) (x := "if") (d := d) (ts := [c, a, b]) (.inr ⟨rfl, rfl⟩) (by omega) (fun t ht => by
      rw [e1]
      simp only [List.mem_cons, List.not_mem_nil, or_false] at ht
      rcases ht with rfl | rfl | rfl
      · exact size_ok hl _ hc n (d - 1) (by omega) (by omega)
      · exact size_ok hl _ ha n (d - 1) (by omega) (by omega)
      · exact size_ok hl _ hb n (d - 1) (by omega) (by omega)) (T := .tup (.str "if" :: [c.enc, a.enc, b.enc]))
    rw [show [c, a, b].map (szO ls) = [szO ls c, szO ls a, szO ls b] from rfl, sumO_cond ls c a b] at this
    exact this
end K04
end
section
namespace K04
open PySem PySem.Spec PyProof.Rows L2 DL
def le40 : Option Nat → Bool
  | some n => decide (n ≤ 40)
  | none => false
theorem is_term_of_of {x : PyData} {L : PyData} {o : Option Nat} (h : f_size_of_term [.pd x, .pd L, .int 5] [] = .ok (.pd (optN o)) []) : f_is_term_of [.pd x, .pd L] [] = .ok (.bl (le40 o)) [] := by
  refine runF_pure (S' := []) ?_
  show m_is_term_of [some (.pd x), some (.pd L), none] [] = _
  unfold m_is_term_of
  refine (sSeq_next (sSet_ok (call3_ok (d := .pd x) (e := .pd L) (e3 := .int 5) (S' := []) (S2 := []) (S3 := []) rfl rfl rfl (callF_pd h rfl rfl rfl rfl _ _)))).trans (sRet_ok ?_)
  cases o with
  | none => rfl
  | some n =>
    simp only [Out.bind_ok, mBind_app, mRet_app, eVar_0, eVar_1, eVar_2, eVar_3, eVar_4, eVar_5, eVar_6, eVar_7, eVar_8, eVar_9, eVar_10, eK_app, eOp_app, asB_bl, eTest_app, tru_bl, eTru_app, eChain_app, bNot_app, bAnd_app, bOr_app, eNot_app, eAnd_app, eOr_app, eIf_app, eUn_app, lNil_app, lCons_app, eTup_app, eLst_app, eLstM_app, eCall_app, eSlice_app, asI_int, eMeth_app, sNext_app, sNever_app, sBrk_app, sCont_app, sSeq_app, sSet_app, sExpr_app, sRet_app, sRetN_app, sIf_app, sAsg_app, eRg1_app, eIsI_app, opAdd_int, opSub_int, opCmpI_int, opLt_int, opEq_int, tgName_app, tgNil_app, tgCons_app, tgTup_app, clr_nil', clr_cons', ofO_some, opIx_tup0, opIx_tup1, fLen_tup, fLen_lst, fTuple_lst, startD, isTy, List.map_cons, List.map_nil, List.length_cons, List.length_nil, List.cons_append, List.nil_append, List.replicate, Nat.reduceAdd, Nat.reduceSub, List.set_cons_zero, List.set_cons_succ, reduceIte, eq_self, Bool.false_eq_true, Bool.not_true, Bool.not_false, Option.bind_some, Bool.xor_false, Bool.xor_true, decide_true, decide_false, optN, opIs]
    rw [show decide ((n : Int) ≤ 40) = le40 (some n) by unfold le40; congr 1; exact propext ⟨fun h => by omega, fun h => by omega⟩]
def fLvs : List Str := ["word", "ties"]
def nLvs : List Str := ["own", "ties", "sum", "least", "most"]
theorem is_first_of {x : PyData} {o : Option Nat} (h : f_size_of_term [.pd x, .tup (fLvs.map .str), .int 5] [] = .ok (.pd (optN o)) []) : f_is_first [.pd x] [] = .ok (.bl (le40 o)) [] := by
  refine runF_pure (S' := []) ?_
  show m_is_first [some (.pd x)] [] = _
  unfold m_is_first
  exact sRet_ok (call2_ok (d := .pd x) (e := .tup (fLvs.map .str)) rfl rfl (callF_pd (is_term_of_of h) rfl rfl rfl rfl _ _))
theorem is_next_of {x : PyData} {o : Option Nat} (h : f_size_of_term [.pd x, .tup (nLvs.map .str), .int 5] [] = .ok (.pd (optN o)) []) : f_is_next [.pd x] [] = .ok (.bl (le40 o)) [] := by
  refine runF_pure (S' := []) ?_
  show m_is_next [some (.pd x)] [] = _
  unfold m_is_next
  exact sRet_ok (call2_ok (d := .pd x) (e := .tup (nLvs.map .str)) rfl rfl (callF_pd (is_term_of_of h) rfl rfl rfl rfl _ _))
theorem is_first_ok (t : Trm) (h : t.Wf) (hd : t.dep ≤ 5) : f_is_first [.pd t.enc] [] = .ok (.bl (le40 (szO fLvs t))) [] := is_first_of (size_ok (ls := fLvs) (by decide) t h 8 5 hd (by omega))
theorem is_next_ok (t : Trm) (h : t.Wf) (hd : t.dep ≤ 5) : f_is_next [.pd t.enc] [] = .ok (.bl (le40 (szO nLvs t))) [] := is_next_of (size_ok (ls := nLvs) (by decide) t h 8 5 hd (by omega))
/-! ### what is no term -/
def odd : PyData → Bool
  | .none => true
  | .bool _ => false
  | .int i => decide (997 ≤ i)
  | .str _ => true
  | .list _ => true
  | .dict _ => true
  | .tuple [] => true
  | .tuple (.str _ :: _) => false
  | .tuple _ => true
theorem size_odd {x : PyData} (h : odd x = true) (L : PyData) (d : Int) (n : Nat) : F_size_of_term (n + 1) [.pd x, .pd L, .int d] [] = .ok (.pd (optN none)) [] := by
  rw [F_size_of_term_succ]
  refine runF_pure (S' := []) ?_
  show m_size_of_term (F_size_of_term n) [some (.pd x), some (.pd L), some (.int d), none, none, none, none] [] = _
  unfold m_size_of_term
  have hw : ∀ σ S, callF 1 f_is_worth [.pd x] σ S = .ok (.bl false) S := fun σ S => by
    by_cases hn : notInt x = true
    · exact callF_pd (n := 1) (is_worth_not hn) rfl rfl rfl rfl σ S
    · cases x with
      | int i =>
        have h : 997 ≤ i := of_decide_eq_true h
        have e : (decide (0 ≤ i) && decide (i < 997)) = false := by
          rw [decide_eq_false (show ¬ i < 997 by omega), Bool.and_false]
        exact callF_pd (n := 1) (e ▸ is_worth_int i) rfl rfl rfl rfl σ S
      | bool _ => exact absurd h Bool.false_ne_true
      | _ => exact absurd rfl hn
  refine (sSeq_next (σ' := [some (.pd x), some (.pd L), some (.int d), none, none, none, none]) (S' := []) (by simp only [Out.bind_ok, mBind_app, mRet_app, eVar_0, eVar_1, eVar_2, eVar_3, eVar_4, eVar_5, eVar_6, eVar_7, eVar_8, eVar_9, eVar_10, eK_app, eOp_app, asB_bl, eTest_app, tru_bl, eTru_app, eChain_app, bNot_app, bAnd_app, bOr_app, eNot_app, eAnd_app, eOr_app, eIf_app, eUn_app, lNil_app, lCons_app, eTup_app, eLst_app, eLstM_app, eCall_app, eSlice_app, asI_int, eMeth_app, sNext_app, sNever_app, sBrk_app, sCont_app, sSeq_app, sSet_app, sExpr_app, sRet_app, sRetN_app, sIf_app, sAsg_app, eRg1_app, eIsI_app, opAdd_int, opSub_int, opCmpI_int, opLt_int, opEq_int, tgName_app, tgNil_app, tgCons_app, tgTup_app, clr_nil', clr_cons', ofO_some, opIx_tup0, opIx_tup1, fLen_tup, fLen_lst, fTuple_lst, startD, isTy, List.map_cons, List.map_nil, List.length_cons, List.length_nil, List.cons_append, List.nil_append, List.replicate, Nat.reduceAdd, Nat.reduceSub, List.set_cons_zero, List.set_cons_succ, reduceIte, eq_self, Bool.false_eq_true, Bool.not_true, Bool.not_false, Option.bind_some, Bool.xor_false, Bool.xor_true, decide_true, decide_false, hw])).trans ?_
  refine sSeq_ret ((sIf_t (S' := []) ?_).trans (sRet_ok rfl))
  cases x with
  | tuple xs =>
    cases xs with
    | nil => simp only [Out.bind_ok, mBind_app, mRet_app, eVar_0, eVar_1, eVar_2, eVar_3, eVar_4, eVar_5, eVar_6, eVar_7, eVar_8, eVar_9, eVar_10, eK_app, eOp_app, asB_bl, eTest_app, tru_bl, eTru_app, eChain_app, bNot_app, bAnd_app, bOr_app, eNot_app, eAnd_app, eOr_app, eIf_app, eUn_app, lNil_app, lCons_app, eTup_app, eLst_app, eLstM_app, eCall_app, eSlice_app, asI_int, eMeth_app, sNext_app, sNever_app, sBrk_app, sCont_app, sSeq_app, sSet_app, sExpr_app, sRet_app, sRetN_app, sIf_app, sAsg_app, eRg1_app, eIsI_app, opAdd_int, opSub_int, opCmpI_int, opLt_int, opEq_int, tgName_app, tgNil_app, tgCons_app, tgTup_app, clr_nil', clr_cons', ofO_some, opIx_tup0, opIx_tup1, fLen_tup, fLen_lst, fTuple_lst, startD, isTy, List.map_cons, List.map_nil, List.length_cons, List.length_nil, List.cons_append, List.nil_append, List.replicate, Nat.reduceAdd, Nat.reduceSub, List.set_cons_zero, List.set_cons_succ, reduceIte, eq_self, Bool.false_eq_true, Bool.not_true, Bool.not_false, Option.bind_some, Bool.xor_false, Bool.xor_true, decide_true, decide_false, mkTup0, opEqT_nil]
    | cons a r =>
      have ha : isTy ([] : Sto) .str (.pd a) = some false := by
        cases a <;> first | rfl | exact absurd h Bool.false_ne_true
      simp only [Out.bind_ok, mBind_app, mRet_app, eVar_0, eVar_1, eVar_2, eVar_3, eVar_4, eVar_5, eVar_6, eVar_7, eVar_8, eVar_9, eVar_10, eK_app, eOp_app, asB_bl, eTest_app, tru_bl, eTru_app, eChain_app, bNot_app, bAnd_app, bOr_app, eNot_app, eAnd_app, eOr_app, eIf_app, eUn_app, lNil_app, lCons_app, eTup_app, eLst_app, eLstM_app, eCall_app, eSlice_app, asI_int, eMeth_app, sNext_app, sNever_app, sBrk_app, sCont_app, sSeq_app, sSet_app, sExpr_app, sRet_app, sRetN_app, sIf_app, sAsg_app, eRg1_app, eIsI_app, opAdd_int, opSub_int, opCmpI_int, opLt_int, opEq_int, tgName_app, tgNil_app, tgCons_app, tgTup_app, clr_nil', clr_cons', ofO_some, opIx_tup0, opIx_tup1, fLen_tup, fLen_lst, fTuple_lst, startD, isTy, List.map_cons, List.map_nil, List.length_cons, List.length_nil, List.cons_append, List.nil_append, List.replicate, Nat.reduceAdd, Nat.reduceSub, List.set_cons_zero, List.set_cons_succ, reduceIte, eq_self, Bool.false_eq_true, Bool.not_true, Bool.not_false, Option.bind_some, Bool.xor_false, Bool.xor_true, decide_true, decide_false, mkTup0, opEqT_cons]
      cases a <;> first | rfl | exact absurd h Bool.false_ne_true
  | bool _ => exact absurd h Bool.false_ne_true
  | _ => simp only [Out.bind_ok, mBind_app, mRet_app, eVar_0, eVar_1, eVar_2, eVar_3, eVar_4, eVar_5, eVar_6, eVar_7, eVar_8, eVar_9, eVar_10, eK_app, eOp_app, asB_bl, eTest_app, tru_bl, eTru_app, eChain_app, bNot_app, bAnd_app, bOr_app, eNot_app, eAnd_app, eOr_app, eIf_app, eUn_app, lNil_app, lCons_app, eTup_app, eLst_app, eLstM_app, eCall_app, eSlice_app, asI_int, eMeth_app, sNext_app, sNever_app, sBrk_app, sCont_app, sSeq_app, sSet_app, sExpr_app, sRet_app, sRetN_app, sIf_app, sAsg_app, eRg1_app, eIsI_app, opAdd_int, opSub_int, opCmpI_int, opLt_int, opEq_int, tgName_app, tgNil_app, tgCons_app, tgTup_app, clr_nil', clr_cons', ofO_some, opIx_tup0, opIx_tup1, fLen_tup, fLen_lst, fTuple_lst, startD, isTy, List.map_cons, List.map_nil, List.length_cons, List.length_nil, List.cons_append, List.nil_append, List.replicate, Nat.reduceAdd, Nat.reduceSub, List.set_cons_zero, List.set_cons_succ, reduceIte, eq_self, Bool.false_eq_true, Bool.not_true, Bool.not_false, Option.bind_some, Bool.xor_false, Bool.xor_true, decide_true, decide_false]
theorem is_first_odd {x : PyData} (h : odd x = true) : f_is_first [.pd x] [] = .ok (.bl false) [] := is_first_of (o := none) (size_odd h _ 5 7)
theorem is_next_odd {x : PyData} (h : odd x = true) : f_is_next [.pd x] [] = .ok (.bl false) [] := is_next_of (o := none) (size_odd h _ 5 7)
theorem is_next_plus1 : f_is_next [.tup [.str "plus", .int 1]] [] = .ok (.bl false) [] := by
  refine is_next_of (o := none) ?_
  show F_size_of_term (7 + 1) _ _ = _
  rw [F_size_of_term_succ]
  refine runF_pure (S' := []) ?_
  refine (size_open "plus" [.int 1] 5).trans ?_
  unfold tailS
  refine (sSeq_next (σ' := [some (.tup [.str "plus", .int 1]), some (.tup (nLvs.map .str)), some (.int 5), some (.str "plus"), some (.lst [.int 1]), none, none]) (S' := []) ?_).trans ?_
  · refine (sIf_f (S' := []) ?_).trans rfl
    rw [bAnd_app, eTest_app, eTabIn_yes (z := "plus") (S' := [])]
    · rfl
    · rfl
    · decide
  refine sSeq_ret ((sIf_t (S' := []) ?_).trans (sRet_ok rfl))
  simp only [Out.bind_ok, mBind_app, mRet_app, eVar_0, eVar_1, eVar_2, eVar_3, eVar_4, eVar_5, eVar_6, eVar_7, eVar_8, eVar_9, eVar_10, eK_app, eOp_app, asB_bl, eTest_app, tru_bl, eTru_app, eChain_app, bNot_app, bAnd_app, bOr_app, eNot_app, eAnd_app, eOr_app, eIf_app, eUn_app, lNil_app, lCons_app, eTup_app, eLst_app, eLstM_app, eCall_app, eSlice_app, asI_int, eMeth_app, sNext_app, sNever_app, sBrk_app, sCont_app, sSeq_app, sSet_app, sExpr_app, sRet_app, sRetN_app, sIf_app, sAsg_app, eRg1_app, eIsI_app, opAdd_int, opSub_int, opCmpI_int, opLt_int, opEq_int, tgName_app, tgNil_app, tgCons_app, tgTup_app, clr_nil', clr_cons', ofO_some, opIx_tup0, opIx_tup1, fLen_tup, fLen_lst, fTuple_lst, startD, isTy, List.map_cons, List.map_nil, List.length_cons, List.length_nil, List.cons_append, List.nil_append, List.replicate, Nat.reduceAdd, Nat.reduceSub, List.set_cons_zero, List.set_cons_succ, reduceIte, eq_self, Bool.false_eq_true, Bool.not_true, Bool.not_false, Option.bind_some, Bool.xor_false, Bool.xor_true, decide_true, decide_false, opEq_str]
  rfl
/-! ### whether a term looks -/
end K04
end
section
namespace K04
open PySem PySem.Spec PyProof.Rows L2 DL
structure GT (ls : List Str) (t : Trm) : Prop where
  wf : t.Wf
  dep : t.dep ≤ 5
  inl : t.inL ls = true
  sz : t.sz ≤ 40
theorem GT.le {ls : List Str} {t : Trm} (h : GT ls t) : le40 (szO ls t) = true := by
  unfold szO
  rw [if_pos h.inl]
  exact decide_eq_true h.sz
theorem GT.first {t : Trm} (h : GT fLvs t) : f_is_first [.pd t.enc] [] = .ok (.bl true) [] := by
  rw [is_first_ok t h.wf (h.dep), h.le]
theorem GT.next {t : Trm} (h : GT nLvs t) : f_is_next [.pd t.enc] [] = .ok (.bl true) [] := by
  rw [is_next_ok t h.wf (h.dep), h.le]
end K04
end
section
namespace K04
open PySem PySem.Spec PyProof.Rows L2 DL
/-! ### what is drawn -/
abbrev poolOb (a b c : Int) : Ob := .lst [.int a, .int b, .int c]
def IsPool (ob : Ob) : Prop := ∃ a b c : Int, 0 ≤ a ∧ 0 ≤ b ∧ 0 ≤ c ∧ ob = poolOb a b c
theorem IsPool.pd {ob : Ob} (h : IsPool ob) : pdOb ob = true := by
  obtain ⟨a, b, c, _, _, _, rfl⟩ := h
  rfl
theorem opMod_pos {i j : Int} (h : 0 < j) (S : Sto) : opMod (.pd (.int i)) (.pd (.int j)) S = .ok (.int (i % j)) S := by
  unfold opMod; dsimp only; rw [if_pos h]
theorem opDiv_pos {i j : Int} (h : 0 < j) (h2 : j < 1073741824) (S : Sto) : opDiv (.pd (.int i)) (.pd (.int j)) S = .ok (.int (i / j)) S := by
  unfold opDiv; dsimp only; rw [if_pos ⟨h, h2⟩]
theorem opMul_l {i j : Int} (h : i.natAbs < 2 ^ 64) (S : Sto) : opMul2 (.pd (.int i)) (.pd (.int j)) S = .ok (.int (i * j)) S := by
  show opMul (.pd (.int i)) (.pd (.int j)) S = _
  unfold opMul; dsimp only; rw [if_pos (.inl h)]
theorem opMul_r {i j : Int} (h : j.natAbs < 2 ^ 64) (S : Sto) : opMul2 (.pd (.int i)) (.pd (.int j)) S = .ok (.int (i * j)) S := by
  show opMul (.pd (.int i)) (.pd (.int j)) S = _
  unfold opMul; dsimp only; rw [if_pos (.inr h)]
theorem pool0 (a b c : Int) : opIx (.ref 0) (.int 0) [poolOb a b c] = .ok (.int a) [poolOb a b c] := by rw [opIx_ref rfl]; simp
theorem pool1 (a b c : Int) : opIx (.ref 0) (.int 1) [poolOb a b c] = .ok (.int b) [poolOb a b c] := by rw [opIx_ref rfl]; simp
theorem pool2 (a b c : Int) : opIx (.ref 0) (.int 2) [poolOb a b c] = .ok (.int c) [poolOb a b c] := by rw [opIx_ref rfl]; simp
theorem put0 (a b c x : Int) : setIx [poolOb a b c] (.ref 0) (.int 0) (.int x) = some [poolOb x b c] := rfl
theorem put2 (a b c x : Int) : setIx [poolOb a b c] (.ref 0) (.int 2) (.int x) = some [poolOb a b x] := rfl
theorem mod_bound {i j : Int} (h : 0 < j) : 0 ≤ i % j ∧ i % j < j := ⟨Int.emod_nonneg _ (by omega), Int.emod_lt_of_pos _ h⟩
theorem take_body {a b c : Int} (ha : 0 ≤ a) (hb : 0 ≤ b) (hc : 0 ≤ c) {many : Int} (h1 : 1 ≤ many) (h2 : many ≤ 1000000) : ∃ (x : Int) (ob : Ob) (S' : Sto), 0 ≤ x ∧ x < many ∧ IsPool ob ∧ S' = [ob] ∧ m__law_take [some (.ref 0), some (.int many), none, none, none] [poolOb a b c] = .ok (.ret (.int x)) S' := by
  have hm : 0 < many := by omega
  by_cases h : 0 < a
  · obtain ⟨m1, m2⟩ := mod_bound (i := a) hm
    refine ⟨a % many, poolOb (a / many) b c, _, m1, m2, ⟨_, _, _, Int.ediv_nonneg ha (by omega), hb, hc, rfl⟩, rfl, ?_⟩
    simp only [m__law_take, Out.bind_ok, mBind_app, mRet_app, eVar_0, eVar_1, eVar_2, eVar_3, eVar_4, eVar_5, eVar_6, eVar_7, eVar_8, eVar_9, eVar_10, eK_app, eOp_app, asB_bl, eTest_app, tru_bl, eTru_app, eChain_app, bNot_app, bAnd_app, bOr_app, eNot_app, eAnd_app, eOr_app, eIf_app, eUn_app, lNil_app, lCons_app, eTup_app, eLst_app, eLstM_app, eCall_app, eSlice_app, asI_int, eMeth_app, sNext_app, sNever_app, sBrk_app, sCont_app, sSeq_app, sSet_app, sExpr_app, sRet_app, sRetN_app, sIf_app, sAsg_app, eRg1_app, eIsI_app, opAdd_int, opSub_int, opCmpI_int, opLt_int, opEq_int, tgName_app, tgNil_app, tgCons_app, tgTup_app, clr_nil', clr_cons', ofO_some, opIx_tup0, opIx_tup1, fLen_tup, fLen_lst, fTuple_lst, startD, isTy, List.map_cons, List.map_nil, List.length_cons, List.length_nil, List.cons_append, List.nil_append, List.replicate, Nat.reduceAdd, Nat.reduceSub, List.set_cons_zero, List.set_cons_succ, reduceIte, eq_self, Bool.false_eq_true, Bool.not_true, Bool.not_false, Option.bind_some, Bool.xor_false, Bool.xor_true, decide_true, decide_false, pool0, h, opMod_pos hm, sSetIx, opDiv_pos hm (show many < 1073741824 by omega), put0]
  · have hd : decide (0 < a) = false := decide_eq_false h
    obtain ⟨m1, m2⟩ := mod_bound (i := b + 1000003 * (c + 1)) (show (0 : Int) < 2305843009213693951 by omega)
    generalize hone : (b + 1000003 * (c + 1)) % 2305843009213693951 = one at m1 m2
    generalize htwo : (one * one % 2305843009213693921 * one + 8191 * (c + 1)) % 2305843009213693907 = two
    obtain ⟨k1, k2⟩ := mod_bound (i := two / 4096) hm
    refine ⟨two / 4096 % many, poolOb a b (c + 1), _, k1, k2, ⟨_, _, _, ha, hb, by omega, rfl⟩, rfl, ?_⟩
    simp only [m__law_take, Out.bind_ok, mBind_app, mRet_app, eVar_0, eVar_1, eVar_2, eVar_3, eVar_4, eVar_5, eVar_6, eVar_7, eVar_8, eVar_9, eVar_10, eK_app, eOp_app, asB_bl, eTest_app, tru_bl, eTru_app, eChain_app, bNot_app, bAnd_app, bOr_app, eNot_app, eAnd_app, eOr_app, eIf_app, eUn_app, lNil_app, lCons_app, eTup_app, eLst_app, eLstM_app, eCall_app, eSlice_app, asI_int, eMeth_app, sNext_app, sNever_app, sBrk_app, sCont_app, sSeq_app, sSet_app, sExpr_app, sRet_app, sRetN_app, sIf_app, sAsg_app, eRg1_app, eIsI_app, opAdd_int, opSub_int, opCmpI_int, opLt_int, opEq_int, tgName_app, tgNil_app, tgCons_app, tgTup_app, clr_nil', clr_cons', ofO_some, opIx_tup0, opIx_tup1, fLen_tup, fLen_lst, fTuple_lst, startD, isTy, List.map_cons, List.map_nil, List.length_cons, List.length_nil, List.cons_append, List.nil_append, List.replicate, Nat.reduceAdd, Nat.reduceSub, List.set_cons_zero, List.set_cons_succ, reduceIte, eq_self, Bool.false_eq_true, Bool.not_true, Bool.not_false, Option.bind_some, Bool.xor_false, Bool.xor_true, decide_true, decide_false, pool0, hd, sSetIx, pool2, put2, pool1, opMul_l (show (1000003 : Int).natAbs < 2 ^ 64 by decide), opMul_l (show (8191 : Int).natAbs < 2 ^ 64 by decide), opMod_pos (show (0 : Int) < 2305843009213693951 by omega), hone,
      opMul_l (show one.natAbs < 2 ^ 64 by omega), opMod_pos (show (0 : Int) < 2305843009213693921 by omega), opMul_r (show one.natAbs < 2 ^ 64 by omega), opMod_pos (show (0 : Int) < 2305843009213693907 by omega), htwo, opDiv_pos (show (0 : Int) < 4096 by omega) (show (4096 : Int) < 1073741824 by omega), opMod_pos hm]
theorem take_ok {ob : Ob} (hp : IsPool ob) {many : Nat} (h1 : 1 ≤ many) (h2 : many ≤ 1000000) : ∃ (x : Nat) (ob' : Ob), x < many ∧ IsPool ob' ∧ f__law_take [.ref 0, .int many] [ob] = .ok (.int x) [ob'] := by
  obtain ⟨a, b, c, ha, hb, hc, rfl⟩ := hp
  obtain ⟨x, ob', S', hx0, hx, hp', rfl, e⟩ := take_body ha hb hc (many := many) (by omega) (by omega)
  obtain ⟨n, rfl⟩ := Int.eq_ofNat_of_zero_le hx0
  refine ⟨n, ob', by omega, hp', ?_⟩
  unfold f__law_take runF
  show (match m__law_take [some (.ref 0), some (.int many), none, none, none] [poolOb a b c] with | .ok (.ret d) S' => fin 1 d S' | .ok (.next _) S' => fin 1 .non S' | .ok _ _ => .stuck | .exc e _ S' => _ | .stuck => .stuck) = _
  rw [e]
  show fin 1 (.int n) [ob'] = _
  unfold fin
  simp [hp'.pd]
/-- a number drawn by a caller -/
theorem take_call {ob : Ob} (hp : IsPool ob) {many : Nat} (h1 : 1 ≤ many) (h2 : many ≤ 1000000) {S : Sto} {p : Nat} (hS : S[p]? = some ob) (σ : Sl) : ∃ (x : Nat) (ob' : Ob), x < many ∧ IsPool ob' ∧ callF 2 f__law_take [.ref p, .int many] σ S = .ok (.int x) (S.set p ob') := by
  obtain ⟨x, ob', hx, hp', e⟩ := take_ok hp h1 h2
  exact ⟨x, ob', hx, hp', callF_ref hS hp.pd rfl e rfl rfl hp'.pd σ⟩
end K04
end
section
namespace K04
open PySem PySem.Spec PyProof.Rows L2 DL
open PySem.W (dataLe AllAlike Sortable)
theorem fLen_lstI (xs : List PyData) (S : Sto) : fLen [.lst xs] S = .ok (.int xs.length) S := fLen_lst xs
theorem pow10 (S : Sto) : opPow (.int 10) (.int 18) S = .ok (.int 1000000000000000000) S := by
  unfold opPow; dsimp only; rw [if_pos (by decide)]; rfl
theorem pool_body (ns : List Int) (k : Nat) : ∃ a b : Int, 0 ≤ a ∧ 0 ≤ b ∧ m__law_pool [some (.lst (ns.map .int)), some (.int k), none, none, none] [] = .ok (.ret (.ref 0)) [poolOb a b 0] := by
  have hcell : ∃ cell : Int, eIf (eTest (eOp opLt (eVar 1) (eCall fLen (lCons (eVar 0) lNil)))) (eOp opIx (eVar 0) (eVar 1)) (eK (.int 0)) [some (.lst (ns.map .int)), some (.int k), none, none, none] [] = .ok (.int cell) [] := by
    by_cases h : k < ns.length
    · refine ⟨ns[k], ?_⟩
      have h2 : decide ((k : Int) < ((ns.map PyData.int).length : Int)) = true := by rw [List.length_map]; exact decide_eq_true (by omega)
      simp only [Out.bind_ok, mBind_app, mRet_app, eVar_0, eVar_1, eVar_2, eVar_3, eVar_4, eVar_5, eVar_6, eVar_7, eVar_8, eVar_9, eVar_10, eK_app, eOp_app, asB_bl, eTest_app, tru_bl, eTru_app, eChain_app, bNot_app, bAnd_app, bOr_app, eNot_app, eAnd_app, eOr_app, eIf_app, eUn_app, lNil_app, lCons_app, eTup_app, eLst_app, eLstM_app, eCall_app, eSlice_app, asI_int, eMeth_app, sNext_app, sNever_app, sBrk_app, sCont_app, sSeq_app, sSet_app, sExpr_app, sRet_app, sRetN_app, sIf_app, sAsg_app, eRg1_app, eIsI_app, opAdd_int, opSub_int, opCmpI_int, opLt_int, opEq_int, tgName_app, tgNil_app, tgCons_app, tgTup_app, clr_nil', clr_cons', ofO_some, opIx_tup0, opIx_tup1, fLen_tup, fLen_lst, fTuple_lst, startD, isTy, List.map_cons, List.map_nil, List.length_cons, List.length_nil, List.cons_append, List.nil_append, List.replicate, Nat.reduceAdd, Nat.reduceSub, List.set_cons_zero, List.set_cons_succ, reduceIte, eq_self, Bool.false_eq_true, Bool.not_true, Bool.not_false, Option.bind_some, Bool.xor_false, Bool.xor_true, decide_true, decide_false, h2]
      exact opIx_lstN (by rw [List.getElem?_map, List.getElem?_eq_getElem h]; rfl)
    · refine ⟨0, ?_⟩
      have h2 : decide ((k : Int) < ((ns.map PyData.int).length : Int)) = false := by rw [List.length_map]; exact decide_eq_false (by omega)
      simp only [Out.bind_ok, mBind_app, mRet_app, eVar_0, eVar_1, eVar_2, eVar_3, eVar_4, eVar_5, eVar_6, eVar_7, eVar_8, eVar_9, eVar_10, eK_app, eOp_app, asB_bl, eTest_app, tru_bl, eTru_app, eChain_app, bNot_app, bAnd_app, bOr_app, eNot_app, eAnd_app, eOr_app, eIf_app, eUn_app, lNil_app, lCons_app, eTup_app, eLst_app, eLstM_app, eCall_app, eSlice_app, asI_int, eMeth_app, sNext_app, sNever_app, sBrk_app, sCont_app, sSeq_app, sSet_app, sExpr_app, sRet_app, sRetN_app, sIf_app, sAsg_app, eRg1_app, eIsI_app, opAdd_int, opSub_int, opCmpI_int, opLt_int, opEq_int, tgName_app, tgNil_app, tgCons_app, tgTup_app, clr_nil', clr_cons', ofO_some, opIx_tup0, opIx_tup1, fLen_tup, fLen_lst, fTuple_lst, startD, isTy, List.map_cons, List.map_nil, List.length_cons, List.length_nil, List.cons_append, List.nil_append, List.replicate, Nat.reduceAdd, Nat.reduceSub, List.set_cons_zero, List.set_cons_succ, reduceIte, eq_self, Bool.false_eq_true, Bool.not_true, Bool.not_false, Option.bind_some, Bool.xor_false, Bool.xor_true, decide_true, decide_false, h2]
  obtain ⟨cell, ec⟩ := hcell
  generalize hg : (if cell < 0 then -cell else cell) = great
  have hg0 : 0 ≤ great := by rw [← hg]; split <;> omega
  generalize hw : (great % 2147483629 * 48271 + 977 * (k : Int) + 2 * (if decide (cell < 0) = true then 1 else 0) + 5) % 2147483647 = mixed
  have hm0 : 0 ≤ mixed := by rw [← hw]; exact Int.emod_nonneg _ (by omega)
  have hi : fInt [.bl (decide (cell < 0))] [] = .ok (.int (if decide (cell < 0) = true then 1 else 0)) [] := rfl
  have e3 : fAbs [.int cell] [] = .ok (.int great) [] := by rw [← hg]; rfl
  have e4 : (eOp opMod (eOp opAdd (eOp opAdd (eOp opAdd (eOp opMul2 (eOp opMod (eVar 3) (eK (.int 2147483629))) (eK (.int 48271))) (eOp opMul2 (eK (.int 977)) (eVar 1))) (eOp opMul2 (eK (.int 2)) (eCall fInt (lCons (eOp opLt (eVar 2) (eK (.int 0))) lNil)))) (eK (.int 5))) (eK (.int 2147483647)))
      [some (.lst (ns.map .int)), some (.int k), some (.int cell), some (.int great), none] [] = .ok (.int mixed) [] := by
    simp only [Out.bind_ok, mBind_app, mRet_app, eVar_0, eVar_1, eVar_2, eVar_3, eVar_4, eVar_5, eVar_6, eVar_7, eVar_8, eVar_9, eVar_10, eK_app, eOp_app, asB_bl, eTest_app, tru_bl, eTru_app, eChain_app, bNot_app, bAnd_app, bOr_app, eNot_app, eAnd_app, eOr_app, eIf_app, eUn_app, lNil_app, lCons_app, eTup_app, eLst_app, eLstM_app, eCall_app, eSlice_app, asI_int, eMeth_app, sNext_app, sNever_app, sBrk_app, sCont_app, sSeq_app, sSet_app, sExpr_app, sRet_app, sRetN_app, sIf_app, sAsg_app, eRg1_app, eIsI_app, opAdd_int, opSub_int, opCmpI_int, opLt_int, opEq_int, tgName_app, tgNil_app, tgCons_app, tgTup_app, clr_nil', clr_cons', ofO_some, opIx_tup0, opIx_tup1, fLen_tup, fLen_lst, fTuple_lst, startD, isTy, List.map_cons, List.map_nil, List.length_cons, List.length_nil, List.cons_append, List.nil_append, List.replicate, Nat.reduceAdd, Nat.reduceSub, List.set_cons_zero, List.set_cons_succ, reduceIte, eq_self, Bool.false_eq_true, Bool.not_true, Bool.not_false, Option.bind_some, Bool.xor_false, Bool.xor_true, decide_true, decide_false, opMod_pos (show (0 : Int) < 2147483629 by omega), opMul_r (show (48271 : Int).natAbs < 2 ^ 64 by decide), opMul_l (show (977 : Int).natAbs < 2 ^ 64 by decide), opMul_l (show (2 : Int).natAbs < 2 ^ 64 by decide), hi, opMod_pos (show (0 : Int) < 2147483647 by omega), hw]
  have h5 : ∃ a : Int, 0 ≤ a ∧ eIf (eTest (eOp (opCmpI fun i j => decide (j ≤ i)) (eVar 3) (eOp opPow (eK (.int 10)) (eK (.int 18))))) (eOp opSub (eVar 3) (eOp opPow (eK (.int 10)) (eK (.int 18)))) (eK (.int 0))
      [some (.lst (ns.map .int)), some (.int k), some (.int cell), some (.int great), some (.int mixed)] [] = .ok (.int a) [] := by
    by_cases h : 1000000000000000000 ≤ great
    · exact ⟨great - 1000000000000000000, by omega, by simp only [Out.bind_ok, mBind_app, mRet_app, eVar_0, eVar_1, eVar_2, eVar_3, eVar_4, eVar_5, eVar_6, eVar_7, eVar_8, eVar_9, eVar_10, eK_app, eOp_app, asB_bl, eTest_app, tru_bl, eTru_app, eChain_app, bNot_app, bAnd_app, bOr_app, eNot_app, eAnd_app, eOr_app, eIf_app, eUn_app, lNil_app, lCons_app, eTup_app, eLst_app, eLstM_app, eCall_app, eSlice_app, asI_int, eMeth_app, sNext_app, sNever_app, sBrk_app, sCont_app, sSeq_app, sSet_app, sExpr_app, sRet_app, sRetN_app, sIf_app, sAsg_app, eRg1_app, eIsI_app, opAdd_int, opSub_int, opCmpI_int, opLt_int, opEq_int, tgName_app, tgNil_app, tgCons_app, tgTup_app, clr_nil', clr_cons', ofO_some, opIx_tup0, opIx_tup1, fLen_tup, fLen_lst, fTuple_lst, startD, isTy, List.map_cons, List.map_nil, List.length_cons, List.length_nil, List.cons_append, List.nil_append, List.replicate, Nat.reduceAdd, Nat.reduceSub, List.set_cons_zero, List.set_cons_succ, reduceIte, eq_self, Bool.false_eq_true, Bool.not_true, Bool.not_false, Option.bind_some, Bool.xor_false, Bool.xor_true, decide_true, decide_false, pow10, h]⟩
    · have h' : decide (1000000000000000000 ≤ great) = false := decide_eq_false h
      exact ⟨0, by omega, by simp only [Out.bind_ok, mBind_app, mRet_app, eVar_0, eVar_1, eVar_2, eVar_3, eVar_4, eVar_5, eVar_6, eVar_7, eVar_8, eVar_9, eVar_10, eK_app, eOp_app, asB_bl, eTest_app, tru_bl, eTru_app, eChain_app, bNot_app, bAnd_app, bOr_app, eNot_app, eAnd_app, eOr_app, eIf_app, eUn_app, lNil_app, lCons_app, eTup_app, eLst_app, eLstM_app, eCall_app, eSlice_app, asI_int, eMeth_app, sNext_app, sNever_app, sBrk_app, sCont_app, sSeq_app, sSet_app, sExpr_app, sRet_app, sRetN_app, sIf_app, sAsg_app, eRg1_app, eIsI_app, opAdd_int, opSub_int, opCmpI_int, opLt_int, opEq_int, tgName_app, tgNil_app, tgCons_app, tgTup_app, clr_nil', clr_cons', ofO_some, opIx_tup0, opIx_tup1, fLen_tup, fLen_lst, fTuple_lst, startD, isTy, List.map_cons, List.map_nil, List.length_cons, List.length_nil, List.cons_append, List.nil_append, List.replicate, Nat.reduceAdd, Nat.reduceSub, List.set_cons_zero, List.set_cons_succ, reduceIte, eq_self, Bool.false_eq_true, Bool.not_true, Bool.not_false, Option.bind_some, Bool.xor_false, Bool.xor_true, decide_true, decide_false, pow10, h']⟩
  obtain ⟨a, ha, e5⟩ := h5
  refine ⟨a, mixed, ha, hm0, ?_⟩
  unfold m__law_pool
  refine (sSeq_next (sSet_ok ec)).trans ?_
  refine (sSeq_next (sSet_ok (eCall1_ok (d := .int cell) rfl e3))).trans ?_
  refine (sSeq_next (sSet_ok e4)).trans ?_
  refine sRet_ok ?_
  rw [eLstM_app, lCons_app]
  show ((eIf _ _ _ [some (.lst (ns.map .int)), some (.int k), some (.int cell), some (.int great), some (.int mixed)] []).bind _).bind _ = _
  rw [e5]
  simp only [Out.bind_ok, mBind_app, mRet_app, eVar_0, eVar_1, eVar_2, eVar_3, eVar_4, eVar_5, eVar_6, eVar_7, eVar_8, eVar_9, eVar_10, eK_app, eOp_app, asB_bl, eTest_app, tru_bl, eTru_app, eChain_app, bNot_app, bAnd_app, bOr_app, eNot_app, eAnd_app, eOr_app, eIf_app, eUn_app, lNil_app, lCons_app, eTup_app, eLst_app, eLstM_app, eCall_app, eSlice_app, asI_int, eMeth_app, sNext_app, sNever_app, sBrk_app, sCont_app, sSeq_app, sSet_app, sExpr_app, sRet_app, sRetN_app, sIf_app, sAsg_app, eRg1_app, eIsI_app, opAdd_int, opSub_int, opCmpI_int, opLt_int, opEq_int, tgName_app, tgNil_app, tgCons_app, tgTup_app, clr_nil', clr_cons', ofO_some, opIx_tup0, opIx_tup1, fLen_tup, fLen_lst, fTuple_lst, startD, isTy, List.map_cons, List.map_nil, List.length_cons, List.length_nil, List.cons_append, List.nil_append, List.replicate, Nat.reduceAdd, Nat.reduceSub, List.set_cons_zero, List.set_cons_succ, reduceIte, eq_self, Bool.false_eq_true, Bool.not_true, Bool.not_false, Option.bind_some, Bool.xor_false, Bool.xor_true, decide_true, decide_false, mkLstM]
  show (if _ ≤ sizeLine then _ else _) = _
  rw [if_pos (by rw [sizeLine_eq]; simp)]
theorem pool_call (ns : List Int) (k : Nat) (σ : Sl) (S : Sto) : ∃ ob, IsPool ob ∧ callFM 2 f__law_pool [.lst (ns.map .int), .int k] σ S = .ok (.ref S.length) (S ++ [ob]) := by
  obtain ⟨a, b, ha, hb, e⟩ := pool_body ns k
  have hp : IsPool (poolOb a b 0) := ⟨a, b, 0, ha, hb, by omega, rfl⟩
  refine ⟨poolOb a b 0, hp, ?_⟩
  have ef : f__law_pool [.lst (ns.map .int), .int k] [] = .ok (.ref 0) [poolOb a b 0] := by
    unfold f__law_pool runFM
    show (match m__law_pool [some (.lst (ns.map .int)), some (.int k), none, none, none] [] with | .ok (.ret d) S' => finM 0 d S' | .ok _ _ => .stuck | .exc e _ S' => _ | .stuck => .stuck) = _
    rw [e]
    show finM 0 (.ref 0) [poolOb a b 0] = _
    unfold finM
    simp [hp.pd]
  unfold callFM
  simp only [refsOf_pd, refsOf_nil, obsAt_nil, renum_pd, renum_nil, ef]
  rw [if_pos ⟨rfl, List.nodup_nil, rfl⟩]
  simp [hp.pd]
end K04
end
section
namespace K04
open PySem PySem.Spec PyProof.Rows L2 DL
/-! ### draws -/
theorem draw {ob : Ob} (hp : IsPool ob) {i : Nat} {σ : Sl} (h0 : ∀ S, eVar i σ S = .ok (.ref 0) S) {k : Int} {n : Nat} (hk : k = n) (h1 : 1 ≤ n) (h2 : n ≤ 1000000) :
    ∃ (x : Nat) (ob' : Ob), x < n ∧ IsPool ob' ∧ mBind (lCons (eVar i) (lCons (eK (.int k)) lNil)) (callF 2 f__law_take) σ [ob] = .ok (.int x) [ob'] := by
  obtain ⟨x, ob', hx, hp', e⟩ := take_call hp h1 h2 (S := [ob]) (p := 0) rfl σ
  subst hk
  exact ⟨x, ob', hx, hp', call2_ok (d := .ref 0) (e := .int n) (h0 _) rfl e⟩
theorem runF_ref {n : Nat} {m : DM Fl} {ds : List D} {ob ob' : Ob} {x : PyData} {r : Sto} (h : m (startD n ds) [ob] = .ok (.ret (.pd x)) (ob' :: r)) (hp : pdOb ob' = true) : runF n m ds [ob] = .ok (.pd x) [ob'] := by
  unfold runF
  rw [h]
  show fin 1 (.pd x) (ob' :: r) = _
  unfold fin
  simp [hp]
theorem any_worth_ok {ob : Ob} (hp : IsPool ob) : ∃ (i : Nat) (ob' : Ob), i < 997 ∧ IsPool ob' ∧ f__law_any_worth [.ref 0] [ob] = .ok (.int i) [ob'] := by
  obtain ⟨x1, ob1, h1, hp1, e1⟩ := draw hp (i := 0) (σ := [some (.ref 0)]) (fun _ => rfl) (k := 4) (n := 4) rfl (by omega) (by omega)
  obtain ⟨x2, ob2, h2, hp2, e2⟩ := draw hp1 (i := 0) (σ := [some (.ref 0)]) (fun _ => rfl) (k := 12) (n := 12) rfl (by omega) (by omega)
  obtain ⟨x3, ob3, h3, hp3, e3⟩ := draw hp2 (i := 0) (σ := [some (.ref 0)]) (fun _ => rfl) (k := 997) (n := 997) rfl (by omega) (by omega)
  obtain ⟨y, ob4, h4, hp4, e4⟩ := draw hp3 (i := 0) (σ := [some (.ref 0)]) (fun _ => rfl) (k := 5) (n := 5) rfl (by omega) (by omega)
  have hx : ∃ i : Nat, i < 997 ∧ [PyData.int x1, PyData.int x2, PyData.int x3, PyData.int (996 : Int), PyData.int (0 : Int)][y]? = some (.int i) := by
    rcases (show y = 0 ∨ y = 1 ∨ y = 2 ∨ y = 3 ∨ y = 4 by omega) with rfl | rfl | rfl | rfl | rfl
    · exact ⟨x1, by omega, rfl⟩
    · exact ⟨x2, by omega, rfl⟩
    · exact ⟨x3, h3, rfl⟩
    · exact ⟨996, by omega, rfl⟩
    · exact ⟨0, by omega, rfl⟩
  obtain ⟨i, hi, ei⟩ := hx
  refine ⟨i, ob4, hi, hp4, runF_ref (r := []) ?_ hp4.pd⟩
  show m__law_any_worth [some (.ref 0)] [ob] = _
  unfold m__law_any_worth
  refine sRet_ok (eOp_ok (d := .lst [.int x1, .int x2, .int x3, .int 996, .int 0]) (e := .int y) (S' := [ob3]) (S2 := [ob4]) ?_ e4 (opIx_lstN ei))
  rw [eLst_app, lCons_app, e1, Out.bind_ok, lCons_app, e2, Out.bind_ok, lCons_app, e3, Out.bind_ok]
  simp only [lCons_app, lNil_app, eK_app, Out.bind_ok, mkLst5]
theorem any_worth_call {ob : Ob} (hp : IsPool ob) (σ : Sl) : ∃ (i : Nat) (ob' : Ob), i < 997 ∧ IsPool ob' ∧ callF 1 f__law_any_worth [.ref 0] σ [ob] = .ok (.int i) [ob'] := by
  obtain ⟨i, ob', hi, hp', e⟩ := any_worth_ok hp
  exact ⟨i, ob', hi, hp', callF_ref (n := 1) (d := .int i) (S := [ob]) (p := 0) rfl hp.pd rfl e rfl rfl hp'.pd σ⟩
/-! ### a term drawn -/
def ops11 : List Str := ["plus", "minus", "times", "over", "rest", "less", "same", "low", "high", "plus", "low"]
theorem ops11_ok : ∀ x ∈ ops11, x ∈ tmOps := by decide
def lf (x : Str) : PyData := .tuple [.str x]
def Bd : Nat → Nat
  | 0 => 1
  | 1 => 1
  | m + 2 => 1 + (Bd m + 2 * Bd (m + 1))
theorem Bd_pos : ∀ m, 1 ≤ Bd m
  | 0 => Nat.le_refl _
  | 1 => Nat.le_refl _
  | m + 2 => by unfold Bd; omega
theorem eq_lf {x : Str} (hx : x ∈ tmWords) (S : Sto) : opEq false (.pd (lf x)) (.pd (lf "many")) S = .ok (.bl (decide (x = "many"))) S := by
  have h1 : ∀ z ∈ tmWords, okEq (lf z) = true := fun z hz => okEq_strs (ls := [z]) (by simpa using hz)
  refine (opEq_ex false (h1 x hx) (h1 "many" (by decide)) S).trans ?_
  rw [Bool.xor_false]
  congr 2
  show ((x == ("many" : Str)) && true) = _
  rw [Bool.and_true]
  by_cases h : x = "many"
  · simp [h]
  · simp [h]
structure Drawn (ls : List Str) (d b : Nat) (t : Trm) : Prop where
  wf : t.Wf
  inl : t.inL ls = true
  dep : t.dep ≤ d
  sz : t.sz ≤ b
section
variable {xs ls : List Str} (hx : ∀ x ∈ xs, (x = "many" ∧ ("sum" : Str) ∈ ls) ∨ (x ∈ tmLvs ∧ x ∈ ls)) (hne : 1 ≤ xs.length) (hl : xs.length ≤ 100)
include hx hne hl
/-- a leaf, a worth -/
theorem leaf_drawn {ob : Ob} (hp : IsPool ob) {deep way : D} (d b : Nat) (hb : 1 ≤ b) : ∃ (t : Trm) (ob' : Ob), Drawn ls d b t ∧ IsPool ob' ∧
    (sSeq (sIf (eTest (eOp (opEq false) (mBind (lCons (eVar 0) (lCons (eK (.int 4)) lNil)) (callF 2 f__law_take)) (eK (.int 0)))) (sRet (mBind (lCons (eVar 0) lNil) (callF 1 f__law_any_worth))) sNext)
    (sSeq (sSet 4 (eOp opIx (eVar 1) (mBind (lCons (eVar 0) (lCons (eCall fLen (lCons (eVar 1) lNil)) lNil)) (callF 2 f__law_take))))
    (sRet (eIf (eTest (eOp (opEq false) (eVar 4) (eTup (lCons (eK (.str "many")) lNil)))) (eTup (lCons (eK (.str "many")) (lCons (mBind (lCons (eVar 0) (lCons (eK (.int 4)) lNil)) (callF 2 f__law_take)) lNil))) (eVar 4))))) [some (.ref 0), some (.lst (xs.map lf)), some deep, some way, none, none, none, none] [ob] = .ok (.ret (.pd t.enc)) [ob'] := by
  obtain ⟨x1, ob1, h1, hp1, e1⟩ := draw hp (i := 0) (σ := [some (.ref 0), some (.lst (xs.map lf)), some deep, some way, none, none, none, none]) (fun _ => rfl) (k := 4) (n := 4) rfl (by omega) (by omega)
  have ec : eTest (eOp (opEq false) (mBind (lCons (eVar 0) (lCons (eK (.int 4)) lNil)) (callF 2 f__law_take)) (eK (.int 0))) [some (.ref 0), some (.lst (xs.map lf)), some deep, some way, none, none, none, none] [ob] = .ok (decide ((x1 : Int) = 0)) [ob1] :=
    eTest_bl ((eOp_ok (d := .int x1) (e := .int 0) (S' := [ob1]) (S2 := [ob1]) e1 rfl (opEq_int false _ _ _)).trans (by rw [Bool.xor_false]))
  by_cases h0 : (x1 : Int) = 0
  · rw [decide_eq_true h0] at ec
    obtain ⟨i, ob2, hi, hp2, e2⟩ := any_worth_call hp1 [some (.ref 0), some (.lst (xs.map lf)), some deep, some way, none, none, none, none]
    refine ⟨.num i, ob2, ⟨hi, rfl, Nat.zero_le _, hb⟩, hp2, sSeq_ret ((sIf_t ec).trans (sRet_ok (call1_ok (d := .ref 0) rfl e2)))⟩
  · rw [decide_eq_false h0] at ec
    obtain ⟨y, ob2, hy, hp2, e2⟩ := take_call hp1 (many := xs.length) hne (by omega) (S := [ob1]) (p := 0) rfl [some (.ref 0), some (.lst (xs.map lf)), some deep, some way, none, none, none, none]
    rw [List.set_cons_zero] at e2
    have hm : xs[y] ∈ xs := List.getElem_mem hy
    have ei : (xs.map lf)[y]? = some (lf xs[y]) := by rw [List.getElem?_map, List.getElem?_eq_getElem hy]; rfl
    generalize xs[y] = x at hm ei
    have e3 : sSet 4 (eOp opIx (eVar 1) (mBind (lCons (eVar 0) (lCons (eCall fLen (lCons (eVar 1) lNil)) lNil)) (callF 2 f__law_take))) [some (.ref 0), some (.lst (xs.map lf)), some deep, some way, none, none, none, none] [ob1] = .ok (.next [some (.ref 0), some (.lst (xs.map lf)), some deep, some way, some (.pd (lf x)), none, none, none]) [ob2] := by
      refine sSet_ok (eOp_ok (d := .lst (xs.map lf)) (e := .int y) (S' := [ob1]) (S2 := [ob2]) rfl (call2_ok (d := .ref 0) (e := .int xs.length) (S' := [ob1]) (S2 := [ob1]) rfl ?_ e2) (opIx_lstN ei))
      refine eCall1_ok (d := .lst (xs.map lf)) rfl ?_
      rw [fLen_lst, List.length_map]
    have hw : x ∈ tmWords := by
      rcases hx x hm with ⟨rfl, _⟩ | ⟨h, _⟩
      · decide
      · exact lvs_words x h
    have e4 : eTest (eOp (opEq false) (eVar 4) (eTup (lCons (eK (.str "many")) lNil))) [some (.ref 0), some (.lst (xs.map lf)), some deep, some way, some (.pd (lf x)), none, none, none] [ob2] = .ok (decide (x = "many")) [ob2] :=
      eTest_bl (eOp_ok (d := .pd (lf x)) (e := .pd (lf "many")) (S' := [ob2]) (S2 := [ob2]) rfl (eTup1_ok (x := .str "many") rfl) (eq_lf hw _))
    by_cases hmm : x = "many"
    · rw [decide_eq_true hmm] at e4
      obtain ⟨z, ob3, hz, hp3, e5⟩ := draw hp2 (i := 0) (σ := [some (.ref 0), some (.lst (xs.map lf)), some deep, some way, some (.pd (lf x)), none, none, none]) (fun _ => rfl) (k := 4) (n := 4) rfl (by omega) (by omega)
      have hs : ("sum" : Str) ∈ ls := by
        rcases hx x hm with ⟨_, h⟩ | ⟨h, _⟩
        · exact h
        · exact absurd hmm (lvs_not x h).1
      refine ⟨.many z, ob3, ⟨show z < 997 by omega, decide_eq_true hs, Nat.zero_le _, hb⟩, hp3, ?_⟩
      refine (sSeq_next ((sIf_f ec).trans rfl)).trans ((sSeq_next e3).trans (sRet_ok ?_))
      rw [eIf_app, e4]
      show eTup _ _ _ = _
      rw [eTup_app, lCons_app, eK_app, Out.bind_ok, lCons_app, e5, Out.bind_ok, lNil_app, Out.bind_ok, Out.bind_ok, Out.bind_ok, mkTup2]
      rfl
    · rw [decide_eq_false hmm] at e4
      have hxx : x ∈ tmLvs ∧ x ∈ ls := by
        rcases hx x hm with ⟨h, _⟩ | h
        · exact absurd h hmm
        · exact h
      refine ⟨.leaf x, ob2, ⟨hxx.1, decide_eq_true hxx.2, Nat.zero_le _, hb⟩, hp2, ?_⟩
      refine (sSeq_next ((sIf_f ec).trans rfl)).trans ((sSeq_next e3).trans (sRet_ok ?_))
      rw [eIf_app, e4]
      rfl
theorem any_term_ok : ∀ (n m : Nat), m < n → ∀ {ob : Ob}, IsPool ob → ∃ (t : Trm) (ob' : Ob), Drawn ls (m - 1) (Bd m) t ∧ IsPool ob' ∧ F__law_any_term n [.ref 0, .lst (xs.map lf), .int ((m : Int) - 1)] [ob] = .ok (.pd t.enc) [ob']
  | 0, _, h, _, _ => by omega
  | n + 1, m, hmn, ob, hp => by
    obtain ⟨way, ob1, hway, hp1, e1⟩ := draw hp (i := 0) (σ := [some (.ref 0), some (.lst (xs.map lf)), some (.int ((m : Int) - 1)), none, none, none, none, none]) (fun _ => rfl) (k := 8) (n := 8) rfl (by omega) (by omega)
    have ec : ∀ S, bOr (eTest (eOp opLt (eVar 2) (eK (.int 1)))) (eTest (eOp opLt (eVar 3) (eK (.int 2)))) [some (.ref 0), some (.lst (xs.map lf)), some (.int ((m : Int) - 1)), some (.int way), none, none, none, none] S = .ok (decide (m < 2) || decide (way < 2)) S := fun S => by
      simp only [Out.bind_ok, mBind_app, mRet_app, eVar_0, eVar_1, eVar_2, eVar_3, eVar_4, eVar_5, eVar_6, eVar_7, eVar_8, eVar_9, eVar_10, eK_app, eOp_app, asB_bl, eTest_app, tru_bl, eTru_app, eChain_app, bNot_app, bAnd_app, bOr_app, eNot_app, eAnd_app, eOr_app, eIf_app, eUn_app, lNil_app, lCons_app, eTup_app, eLst_app, eLstM_app, eCall_app, eSlice_app, asI_int, eMeth_app, sNext_app, sNever_app, sBrk_app, sCont_app, sSeq_app, sSet_app, sExpr_app, sRet_app, sRetN_app, sIf_app, sAsg_app, eRg1_app, eIsI_app, opAdd_int, opSub_int, opCmpI_int, opLt_int, opEq_int, tgName_app, tgNil_app, tgCons_app, tgTup_app, clr_nil', clr_cons', ofO_some, opIx_tup0, opIx_tup1, fLen_tup, fLen_lst, fTuple_lst, startD, isTy, List.map_cons, List.map_nil, List.length_cons, List.length_nil, List.cons_append, List.nil_append, List.replicate, Nat.reduceAdd, Nat.reduceSub, List.set_cons_zero, List.set_cons_succ, reduceIte, eq_self, Bool.false_eq_true, Bool.not_true, Bool.not_false, Option.bind_some, Bool.xor_false, Bool.xor_true, decide_true, decide_false]
      rw [show decide ((m : Int) - 1 < 1) = decide (m < 2) by congr 1; exact propext ⟨fun h => by omega, fun h => by omega⟩, show decide ((way : Int) < 2) = decide (way < 2) by congr 1; exact propext ⟨fun h => by omega, fun h => by omega⟩]
      cases decide (m < 2) <;> rfl
    by_cases hb : (decide (m < 2) || decide (way < 2)) = true
    · obtain ⟨t, ob2, ht, hp2, e2⟩ := leaf_drawn hx hne hl hp1 (deep := .int ((m : Int) - 1)) (way := .int way) (m - 1) (Bd m) (Bd_pos m)
      refine ⟨t, ob2, ht, hp2, ?_⟩
      rw [F__law_any_term_succ]
      refine runF_ref (r := []) ?_ hp2.pd
      show m__law_any_term (F__law_any_term n) [some (.ref 0), some (.lst (xs.map lf)), some (.int ((m : Int) - 1)), none, none, none, none, none] [ob] = _
      unfold m__law_any_term
      refine (sSeq_next (sSet_ok e1)).trans (sSeq_ret ((sIf_t ((ec _).trans (by rw [hb]))).trans e2))
    · have hm2 : 2 ≤ m := by
        rw [Bool.or_eq_true, decide_eq_true_eq, decide_eq_true_eq] at hb
        omega
      obtain ⟨m, rfl⟩ : ∃ k, m = k + 2 := ⟨m - 2, by omega⟩
      have hb' : (decide (m + 2 < 2) || decide (way < 2)) = false := by cases h : (decide (m + 2 < 2) || decide (way < 2)) with | true => exact absurd h hb | false => rfl
      obtain ⟨a, ob2, ha, hp2, ea⟩ := any_term_ok n (m + 1) (by omega) hp1
      obtain ⟨b, ob3, hbb, hp3, eb⟩ := any_term_ok n (m + 1) (by omega) hp2
      have d1 : ((m + 2 : Nat) : Int) - 1 - 1 = ((m + 1 : Nat) : Int) - 1 := by omega
      have d2 : ((m + 2 : Nat) : Int) - 1 - 2 = ((m : Nat) : Int) - 1 := by omega
      have ca := fun (σ : Sl) => callF_ref (n := 3) (f := F__law_any_term n) (ds := [.ref 0, .lst (xs.map lf), .int (((m + 1 : Nat) : Int) - 1)]) (d := .pd a.enc) (S := [ob1]) (p := 0) rfl hp1.pd rfl ea rfl rfl hp2.pd σ
      have cb := fun (σ : Sl) => callF_ref (n := 3) (f := F__law_any_term n) (ds := [.ref 0, .lst (xs.map lf), .int (((m + 1 : Nat) : Int) - 1)]) (d := .pd b.enc) (S := [ob2]) (p := 0) rfl hp2.pd rfl eb rfl rfl hp3.pd σ
      have ep : sPar 5 6 (lCons (mBind (lCons (eVar 0) (lCons (eVar 1) (lCons (eOp opSub (eVar 2) (eK (.int 1))) lNil))) (callF 3 (F__law_any_term n))) (lCons (mBind (lCons (eVar 0) (lCons (eVar 1) (lCons (eOp opSub (eVar 2) (eK (.int 1))) lNil))) (callF 3 (F__law_any_term n))) lNil)) [some (.ref 0), some (.lst (xs.map lf)), some (.int ((m + 2 : Nat) - 1)), some (.int way), none, none, none, none] [ob1] =
          .ok (.next [some (.ref 0), some (.lst (xs.map lf)), some (.int ((m + 2 : Nat) - 1)), some (.int way), none, some (.pd a.enc), some (.pd b.enc), none]) [ob3] := by
        unfold sPar
        rw [lCons_app, call3_ok (d := .ref 0) (e := .lst (xs.map lf)) (e3 := .int (((m + 1 : Nat) : Int) - 1)) (S' := [ob1]) (S2 := [ob1]) (S3 := [ob1]) rfl rfl (by rw [← d1]; rfl) (ca _), Out.bind_ok, List.set_cons_zero, lCons_app,
          call3_ok (d := .ref 0) (e := .lst (xs.map lf)) (e3 := .int (((m + 1 : Nat) : Int) - 1)) (S' := [ob2]) (S2 := [ob2]) (S3 := [ob2]) rfl rfl (by rw [← d1]; rfl) (cb _)]
        rfl
      have w7 : ∀ S, eTest (eOp (opEq false) (eVar 3) (eK (.int 7))) [some (.ref 0), some (.lst (xs.map lf)), some (.int ((m + 2 : Nat) - 1)), some (.int way), none, some (.pd a.enc), some (.pd b.enc), none] S = .ok (decide ((way : Int) = 7)) S := fun S => by
        simp only [Out.bind_ok, mBind_app, mRet_app, eVar_0, eVar_1, eVar_2, eVar_3, eVar_4, eVar_5, eVar_6, eVar_7, eVar_8, eVar_9, eVar_10, eK_app, eOp_app, asB_bl, eTest_app, tru_bl, eTru_app, eChain_app, bNot_app, bAnd_app, bOr_app, eNot_app, eAnd_app, eOr_app, eIf_app, eUn_app, lNil_app, lCons_app, eTup_app, eLst_app, eLstM_app, eCall_app, eSlice_app, asI_int, eMeth_app, sNext_app, sNever_app, sBrk_app, sCont_app, sSeq_app, sSet_app, sExpr_app, sRet_app, sRetN_app, sIf_app, sAsg_app, eRg1_app, eIsI_app, opAdd_int, opSub_int, opCmpI_int, opLt_int, opEq_int, tgName_app, tgNil_app, tgCons_app, tgTup_app, clr_nil', clr_cons', ofO_some, opIx_tup0, opIx_tup1, fLen_tup, fLen_lst, fTuple_lst, startD, isTy, List.map_cons, List.map_nil, List.length_cons, List.length_nil, List.cons_append, List.nil_append, List.replicate, Nat.reduceAdd, Nat.reduceSub, List.set_cons_zero, List.set_cons_succ, reduceIte, eq_self, Bool.false_eq_true, Bool.not_true, Bool.not_false, Option.bind_some, Bool.xor_false, Bool.xor_true, decide_true, decide_false]
      by_cases h7 : (way : Int) = 7
      · rw [decide_eq_true h7] at w7
        obtain ⟨c, ob4, hc, hp4, ecc⟩ := any_term_ok n m (by omega) hp3
        have cc := fun (σ : Sl) => callF_ref (n := 3) (f := F__law_any_term n) (ds := [.ref 0, .lst (xs.map lf), .int ((m : Int) - 1)]) (d := .pd c.enc) (S := [ob3]) (p := 0) rfl hp3.pd rfl ecc rfl rfl hp4.pd σ
        refine ⟨.cond c a b, ob4, ⟨⟨hc.wf, ha.wf, hbb.wf⟩, by simp only [Trm.inL, hc.inl, ha.inl, hbb.inl]; rfl, ?_, ?_⟩, hp4, ?_⟩
        · have := ha.dep; have := hbb.dep; have := hc.dep
          simp only [Trm.dep]; omega
        · have := ha.sz; have := hbb.sz; have := hc.sz
          simp only [Trm.sz, Bd]; omega
        rw [F__law_any_term_succ]
        refine runF_ref (r := []) ?_ hp4.pd
        show m__law_any_term (F__law_any_term n) [some (.ref 0), some (.lst (xs.map lf)), some (.int (((m + 2 : Nat) : Int) - 1)), none, none, none, none, none] [ob] = _
        unfold m__law_any_term
        refine (sSeq_next (sSet_ok e1)).trans ?_
        refine (sSeq_next ((sIf_f ((ec _).trans (by rw [hb']))).trans rfl)).trans ?_
        refine (sSeq_next ep).trans ?_
        refine sSeq_ret ((sIf_t (w7 _)).trans (sRet_ok ?_))
        rw [eTup_app, lCons_app, eK_app, Out.bind_ok, lCons_app, call3_ok (d := .ref 0) (e := .lst (xs.map lf)) (e3 := .int ((m : Int) - 1)) (S' := [ob3]) (S2 := [ob3]) (S3 := [ob3]) rfl rfl (by rw [← d2]; rfl) (cc _), Out.bind_ok]
        simp only [List.set_cons_zero, Out.bind_ok, mBind_app, mRet_app, eVar_0, eVar_1, eVar_2, eVar_3, eVar_4, eVar_5, eVar_6, eVar_7, eVar_8, eVar_9, eVar_10, eK_app, eOp_app, asB_bl, eTest_app, tru_bl, eTru_app, eChain_app, bNot_app, bAnd_app, bOr_app, eNot_app, eAnd_app, eOr_app, eIf_app, eUn_app, lNil_app, lCons_app, eTup_app, eLst_app, eLstM_app, eCall_app, eSlice_app, asI_int, eMeth_app, sNext_app, sNever_app, sBrk_app, sCont_app, sSeq_app, sSet_app, sExpr_app, sRet_app, sRetN_app, sIf_app, sAsg_app, eRg1_app, eIsI_app, opAdd_int, opSub_int, opCmpI_int, opLt_int, opEq_int, tgName_app, tgNil_app, tgCons_app, tgTup_app, clr_nil', clr_cons', ofO_some, opIx_tup0, opIx_tup1, fLen_tup, fLen_lst, fTuple_lst, startD, isTy, List.map_cons, List.map_nil, List.length_cons, List.length_nil, List.cons_append, List.nil_append, List.replicate, Nat.reduceAdd, Nat.reduceSub, List.set_cons_zero, List.set_cons_succ, reduceIte, eq_self, Bool.false_eq_true, Bool.not_true, Bool.not_false, Option.bind_some, Bool.xor_false, Bool.xor_true, decide_true, decide_false, mkTup4]
        rfl
      · rw [decide_eq_false h7] at w7
        obtain ⟨z, ob4, hz, hp4, ez⟩ := draw hp3 (i := 0) (σ := [some (.ref 0), some (.lst (xs.map lf)), some (.int ((m + 2 : Nat) - 1)), some (.int way), none, some (.pd a.enc), some (.pd b.enc), some (.lst (ops11.map .str))]) (fun _ => rfl) (k := 11) (n := 11) rfl (by omega) (by omega)
        have hxo : ∃ x, x ∈ tmOps ∧ (ops11.map PyData.str)[z]? = some (.str x) := by
          have hz2 : z < ops11.length := hz
          exact ⟨ops11[z], ops11_ok _ (List.getElem_mem hz2), by rw [List.getElem?_map, List.getElem?_eq_getElem hz2]; rfl⟩
        obtain ⟨x, hxo, ex⟩ := hxo
        refine ⟨.op x a b, ob4, ⟨⟨hxo, ha.wf, hbb.wf⟩, by simp only [Trm.inL, ha.inl, hbb.inl]; rfl, ?_, ?_⟩, hp4, ?_⟩
        · have := ha.dep; have := hbb.dep
          simp only [Trm.dep]; omega
        · have := ha.sz; have := hbb.sz; have := Bd_pos m
          simp only [Trm.sz, Bd]; omega
        rw [F__law_any_term_succ]
        refine runF_ref (r := []) ?_ hp4.pd
        show m__law_any_term (F__law_any_term n) [some (.ref 0), some (.lst (xs.map lf)), some (.int (((m + 2 : Nat) : Int) - 1)), none, none, none, none, none] [ob] = _
        unfold m__law_any_term
        refine (sSeq_next (sSet_ok e1)).trans ?_
        refine (sSeq_next ((sIf_f ((ec _).trans (by rw [hb']))).trans rfl)).trans ?_
        refine (sSeq_next ep).trans ?_
        refine (sSeq_next ((sIf_f (w7 _)).trans rfl)).trans ?_
        refine (sSeq_next (σ' := [some (.ref 0), some (.lst (xs.map lf)), some (.int ((m + 2 : Nat) - 1)), some (.int way), none, some (.pd a.enc), some (.pd b.enc), some (.lst (ops11.map .str))]) (S' := [ob3]) ?_).trans ?_
        · refine sSet_ok (d := .lst (ops11.map .str)) (S' := [ob3]) ?_
          simp only [eLst_app, lCons_app, lNil_app, eK_app, Out.bind_ok, mkLst11]; rfl
        refine sRet_ok ?_
        rw [eTup_app, lCons_app, eOp_ok (d := .lst (ops11.map .str)) (e := .int z) (d' := .str x) (S' := [ob3]) (S2 := [ob4]) (S3 := [ob4]) rfl ez (opIx_lstN ex), Out.bind_ok]
        simp only [Out.bind_ok, mBind_app, mRet_app, eVar_0, eVar_1, eVar_2, eVar_3, eVar_4, eVar_5, eVar_6, eVar_7, eVar_8, eVar_9, eVar_10, eK_app, eOp_app, asB_bl, eTest_app, tru_bl, eTru_app, eChain_app, bNot_app, bAnd_app, bOr_app, eNot_app, eAnd_app, eOr_app, eIf_app, eUn_app, lNil_app, lCons_app, eTup_app, eLst_app, eLstM_app, eCall_app, eSlice_app, asI_int, eMeth_app, sNext_app, sNever_app, sBrk_app, sCont_app, sSeq_app, sSet_app, sExpr_app, sRet_app, sRetN_app, sIf_app, sAsg_app, eRg1_app, eIsI_app, opAdd_int, opSub_int, opCmpI_int, opLt_int, opEq_int, tgName_app, tgNil_app, tgCons_app, tgTup_app, clr_nil', clr_cons', ofO_some, opIx_tup0, opIx_tup1, fLen_tup, fLen_lst, fTuple_lst, startD, isTy, List.map_cons, List.map_nil, List.length_cons, List.length_nil, List.cons_append, List.nil_append, List.replicate, Nat.reduceAdd, Nat.reduceSub, List.set_cons_zero, List.set_cons_succ, reduceIte, eq_self, Bool.false_eq_true, Bool.not_true, Bool.not_false, Option.bind_some, Bool.xor_false, Bool.xor_true, decide_true, decide_false, mkTup3]
        rfl
end
end K04
end
section
namespace K04
open PySem PySem.Spec PyProof.Rows L2 DL
theorem Bd_le : ∀ m : Nat, m ≤ 4 → Bd m ≤ 40 := by
  intro m h
  rcases (show m = 0 ∨ m = 1 ∨ m = 2 ∨ m = 3 ∨ m = 4 by omega) with rfl | rfl | rfl | rfl | rfl <;> decide
theorem Drawn.gt {ls : List Str} {m : Nat} {t : Trm} (h : Drawn ls (m - 1) (Bd m) t) (hm : m ≤ 4) : GT ls t :=
  ⟨h.wf, by have := h.dep; omega, h.inl, by have := h.sz; have := Bd_le m hm; omega⟩
theorem any_term_call {xs ls : List Str} (hx : ∀ x ∈ xs, (x = "many" ∧ ("sum" : Str) ∈ ls) ∨ (x ∈ tmLvs ∧ x ∈ ls)) (hne : 1 ≤ xs.length) (hl : xs.length ≤ 100) {m : Nat} (hm : m ≤ 4) {ob : Ob} (hp : IsPool ob) (σ : Sl) :
    ∃ (t : Trm) (ob' : Ob), GT ls t ∧ IsPool ob' ∧ callF 3 f__law_any_term [.ref 0, .lst (xs.map lf), .int ((m : Int) - 1)] σ [ob] = .ok (.pd t.enc) [ob'] := by
  obtain ⟨t, ob', ht, hp', e⟩ := any_term_ok hx hne hl 8 m (by omega) hp
  exact ⟨t, ob', ht.gt hm, hp', callF_ref (n := 3) (f := f__law_any_term) (ds := [.ref 0, .lst (xs.map lf), .int ((m : Int) - 1)]) (d := .pd t.enc) (S := [ob]) (p := 0) rfl hp.pd rfl e rfl rfl hp'.pd σ⟩
theorem any_first_ok {ob : Ob} (hp : IsPool ob) : ∃ (t : Trm) (ob' : Ob), GT fLvs t ∧ IsPool ob' ∧ f__law_any_first [.ref 0] [ob] = .ok (.pd t.enc) [ob'] := by
  obtain ⟨x, ob1, hx, hp1, e1⟩ := draw hp (i := 0) (σ := [some (.ref 0)]) (fun _ => rfl) (k := 3) (n := 3) rfl (by omega) (by omega)
  obtain ⟨t, ob2, ht, hp2, e2⟩ := any_term_call (xs := ["word", "word", "ties"]) (ls := fLvs) (by decide) (by decide) (by decide) (m := x + 1) (by omega) hp1 [some (.ref 0)]
  have ei : [PyData.int (0 : Int), PyData.int (1 : Int), PyData.int (2 : Int)][x]? = some (.int (((x + 1 : Nat) : Int) - 1)) := by
    rcases (show x = 0 ∨ x = 1 ∨ x = 2 by omega) with rfl | rfl | rfl <;> rfl
  refine ⟨t, ob2, ht, hp2, runF_ref (r := []) ?_ hp2.pd⟩
  show m__law_any_first [some (.ref 0)] [ob] = _
  unfold m__law_any_first
  refine sRet_ok (call3_ok (d := .ref 0) (e := .lst ((["word", "word", "ties"] : List Str).map lf)) (e3 := .int (((x + 1 : Nat) : Int) - 1)) (S' := [ob]) (S2 := [ob]) (S3 := [ob1]) rfl ?_ ?_ e2)
  · simp only [eLst_app, eTup_app, lCons_app, lNil_app, eK_app, Out.bind_ok, mkTup1, mkLst3]; rfl
  · exact eOp_ok (d := .lst [.int 0, .int 1, .int 2]) (e := .int x) (S' := [ob]) (S2 := [ob1]) (by simp only [eLst_app, lCons_app, lNil_app, eK_app, Out.bind_ok, mkLst3]) e1 (opIx_lstN ei)
theorem any_next_ok {ob : Ob} (hp : IsPool ob) : ∃ (t : Trm) (ob' : Ob), GT nLvs t ∧ IsPool ob' ∧ f__law_any_next [.ref 0] [ob] = .ok (.pd t.enc) [ob'] := by
  obtain ⟨x, ob1, hx, hp1, e1⟩ := draw hp (i := 0) (σ := [some (.ref 0), none]) (fun _ => rfl) (k := 3) (n := 3) rfl (by omega) (by omega)
  have ec : eTest (eOp (opEq false) (mBind (lCons (eVar 0) (lCons (eK (.int 3)) lNil)) (callF 2 f__law_take)) (eK (.int 0))) [some (.ref 0), none] [ob] = .ok (decide ((x : Int) = 0)) [ob1] :=
    eTest_bl ((eOp_ok (d := .int x) (e := .int 0) (S' := [ob1]) (S2 := [ob1]) e1 rfl (opEq_int false _ _ _)).trans (by rw [Bool.xor_false]))
  by_cases h0 : (x : Int) = 0
  · rw [decide_eq_true h0] at ec
    obtain ⟨t, ob2, ht, hp2, e2⟩ := any_term_call (xs := ["own", "own", "ties"]) (ls := nLvs) (by decide) (by decide) (by decide) (m := 3) (by omega) hp1 [some (.ref 0), none]
    refine ⟨t, ob2, ht, hp2, runF_ref (r := []) ?_ hp2.pd⟩
    show m__law_any_next [some (.ref 0), none] [ob] = _
    unfold m__law_any_next
    refine sSeq_ret ((sIf_t ec).trans (sRet_ok (call3_ok (d := .ref 0) (e := .lst ((["own", "own", "ties"] : List Str).map lf)) (e3 := .int (((3 : Nat) : Int) - 1)) (S' := [ob1]) (S2 := [ob1]) (S3 := [ob1]) rfl ?_ rfl e2)))
    simp only [eLst_app, eTup_app, lCons_app, lNil_app, eK_app, Out.bind_ok, mkTup1, mkLst3]; rfl
  · rw [decide_eq_false h0] at ec
    obtain ⟨y, ob2, hy, hp2, e2⟩ := draw hp1 (i := 0) (σ := [some (.ref 0), none]) (fun _ => rfl) (k := 4) (n := 4) rfl (by omega) (by omega)
    have eh : ∃ h : Str, (h = "sum" ∨ h = "least" ∨ h = "most" ∨ h = "many") ∧ [lf "sum", lf "least", lf "most", lf "many"][y]? = some (lf h) := by
      rcases (show y = 0 ∨ y = 1 ∨ y = 2 ∨ y = 3 by omega) with rfl | rfl | rfl | rfl
      · exact ⟨"sum", .inl rfl, rfl⟩
      · exact ⟨"least", .inr (.inl rfl), rfl⟩
      · exact ⟨"most", .inr (.inr (.inl rfl)), rfl⟩
      · exact ⟨"many", .inr (.inr (.inr rfl)), rfl⟩
    obtain ⟨h, hh, eh⟩ := eh
    obtain ⟨z, ob3, hz, hp3, e3⟩ := draw hp2 (i := 0) (σ := [some (.ref 0), some (.pd (lf h))]) (fun _ => rfl) (k := 4) (n := 4) rfl (by omega) (by omega)
    obtain ⟨t, ob4, ht, hp4, e4⟩ := any_term_call (xs := [h, h, "own", "sum", "ties"]) (ls := nLvs) (by rcases hh with rfl | rfl | rfl | rfl <;> decide) (by simp) (by simp) (m := z + 1) (by omega) hp3 [some (.ref 0), some (.pd (lf h))]
    have ei : [PyData.int (0 : Int), PyData.int (1 : Int), PyData.int (2 : Int), PyData.int (3 : Int)][z]? = some (.int (((z + 1 : Nat) : Int) - 1)) := by
      rcases (show z = 0 ∨ z = 1 ∨ z = 2 ∨ z = 3 by omega) with rfl | rfl | rfl | rfl <;> rfl
    refine ⟨t, ob4, ht, hp4, runF_ref (r := []) ?_ hp4.pd⟩
    show m__law_any_next [some (.ref 0), none] [ob] = _
    unfold m__law_any_next
    refine (sSeq_next ((sIf_f ec).trans rfl)).trans ?_
    refine (sSeq_next (σ' := [some (.ref 0), some (.pd (lf h))]) (S' := [ob2]) (sSet_ok (eOp_ok (d := .lst [lf "sum", lf "least", lf "most", lf "many"]) (e := .int y) (S' := [ob1]) (S2 := [ob2]) ?_ e2 (opIx_lstN eh)))).trans ?_
    · simp only [eLst_app, eTup_app, lCons_app, lNil_app, eK_app, Out.bind_ok, mkTup1, mkLst4]; rfl
    refine sRet_ok (call3_ok (d := .ref 0) (e := .lst (([h, h, "own", "sum", "ties"] : List Str).map lf)) (e3 := .int (((z + 1 : Nat) : Int) - 1)) (S' := [ob2]) (S2 := [ob2]) (S3 := [ob3]) rfl ?_ ?_ e4)
    · simp only [eLst_app, eTup_app, lCons_app, lNil_app, eK_app, eVar_1, Out.bind_ok, mkTup1, mkLst5]; rfl
    · exact eOp_ok (d := .lst [.int 0, .int 1, .int 2, .int 3]) (e := .int z) (S' := [ob2]) (S2 := [ob3]) (by simp only [eLst_app, lCons_app, lNil_app, eK_app, Out.bind_ok, mkLst4]) e3 (opIx_lstN ei)
/-- a comprehension of draws: the pool at p, all else stays -/
theorem lc_draw {S0 : Sto} {p : Nat} {σ : Sl} {vs : List Nat} {w : DM Wk} {i : Nat} {te : DM D} {ob ob1 : Ob} (hp1 : IsPool ob1) {n : Nat} (hn : n ≤ 1000) {Q : PyData → Prop}
    (hw : w σ (S0.set p ob) = .ok ⟨(List.range n).map fun (j : Nat) => D.int j, .no⟩ (S0.set p ob1))
    (hte : ∀ (ob' : Ob) (j : Nat), IsPool ob' → ∃ (x : PyData) (ob'' : Ob), Q x ∧ IsPool ob'' ∧ te ((clr vs σ).set i (some (.int j))) (S0.set p ob') = .ok (.pd x) (S0.set p ob'')) :
    ∃ (xs : List PyData) (ob' : Ob), xs.length = n ∧ (∀ x ∈ xs, Q x) ∧ IsPool ob' ∧ eLc vs w (tgName i) (mRet true) te σ (S0.set p ob) = .ok (.lst xs) (S0.set p ob') := by
  have go : ∀ (l : List Nat) (acc : List PyData) (ob1 : Ob), IsPool ob1 → acc.length + l.length = n → (∀ x ∈ acc, Q x) → ∃ (xs : List PyData) (ob' : Ob), xs.length = n ∧ (∀ x ∈ xs, Q x) ∧ IsPool ob' ∧
      lcGo .no (tgName i) (mRet true) te (l.map fun (j : Nat) => D.int j) (acc.map .pd) (clr vs σ) (S0.set p ob1) = .ok (xs.map .pd) (S0.set p ob') := by
    intro l
    induction l with
    | nil =>
      intro acc ob1 hp1 hl hq
      refine ⟨acc, ob1, by simpa using hl, hq, hp1, ?_⟩
      rw [List.map_nil]
      unfold lcGo
      rw [if_pos (by exact trivial)]
    | cons j r ih =>
      intro acc ob1 hp1 hl hq
      obtain ⟨x, ob2, hx, hp2, e⟩ := hte ob1 j hp1
      rw [List.length_cons] at hl
      obtain ⟨xs, ob', h1, h2, h3, h4⟩ := ih (acc ++ [x]) ob2 hp2 (by rw [List.length_append, List.length_singleton]; omega) (fun y hy => by
        rcases List.mem_append.mp hy with hy | hy
        · exact hq y hy
        · rw [show y = x by simpa using hy]; exact hx)
      refine ⟨xs, ob', h1, h2, h3, ?_⟩
      rw [List.map_cons]
      unfold lcGo
      rw [if_pos (by exact trivial)]
      simp only [tgName_app, mRet_app, Out.bindN_ok, if_true, e]
      rw [if_pos (by rw [List.length_map, sizeLine_eq]; omega)]
      rw [List.map_append] at h4
      exact h4
  obtain ⟨xs, ob', h1, h2, h3, h4⟩ := go (List.range n) [] ob1 hp1 (by simp) (fun x hx => (nomatch hx))
  refine ⟨xs, ob', h1, h2, h3, ?_⟩
  unfold eLc
  rw [mBind_app]
  unfold lcAll
  rw [hw, Out.bind_ok]
  rw [List.map_nil] at h4
  dsimp only
  rw [h4, Out.bind_ok]
  unfold mkF
  rw [pdL_map]
theorem list_of {α : Type} (f : α → PyData) (Q : α → Prop) : ∀ xs : List PyData, (∀ x ∈ xs, ∃ a, Q a ∧ x = f a) → ∃ l : List α, xs = l.map f ∧ ∀ a ∈ l, Q a
  | [], _ => ⟨[], rfl, fun a h => (nomatch h)⟩
  | x :: r, h => by
    obtain ⟨a, qa, rfl⟩ := h x List.mem_cons_self
    obtain ⟨l, rfl, hl⟩ := list_of f Q r fun y hy => h y (List.mem_cons_of_mem _ hy)
    exact ⟨a :: l, rfl, fun b hb => by
      rcases List.mem_cons.mp hb with rfl | hb
      · exact qa
      · exact hl b hb⟩
end K04
end
section
namespace K04
open PySem PySem.Spec PyProof.Rows L2 DL
/-! ### the ops -/
noncomputable abbrev tabV : List (Str × DF) := [("plus", f_plus_of), ("minus", f_minus_of), ("times", f_times_of), ("over", f_over_of), ("rest", f_rest_of), ("less", f_less_of), ("same", f_same_of), ("low", f_low_of), ("high", f_high_of)]
section
variable {a b : Nat} (ha : a < 997) (hb : b < 997)
include ha hb
theorem plus_ok : f_plus_of [.int a, .int b] [] = .ok (.int (opv "plus" a b : Nat)) [] := by
  have e : ((a : Int) + b) % 997 = ((opv "plus" a b : Nat) : Int) := by
    show _ = (((a + b) % 997 : Nat) : Int)
    omega
  refine runF_pure (S' := []) ?_
  show m_plus_of [some (.int a), some (.int b)] [] = _
  unfold m_plus_of
  refine sRet_ok ?_
  simp only [Out.bind_ok, mBind_app, mRet_app, eVar_0, eVar_1, eVar_2, eVar_3, eVar_4, eVar_5, eVar_6, eVar_7, eVar_8, eVar_9, eVar_10, eK_app, eOp_app, asB_bl, eTest_app, tru_bl, eTru_app, eChain_app, bNot_app, bAnd_app, bOr_app, eNot_app, eAnd_app, eOr_app, eIf_app, eUn_app, lNil_app, lCons_app, eTup_app, eLst_app, eLstM_app, eCall_app, eSlice_app, asI_int, eMeth_app, sNext_app, sNever_app, sBrk_app, sCont_app, sSeq_app, sSet_app, sExpr_app, sRet_app, sRetN_app, sIf_app, sAsg_app, eRg1_app, eIsI_app, opAdd_int, opSub_int, opCmpI_int, opLt_int, opEq_int, tgName_app, tgNil_app, tgCons_app, tgTup_app, clr_nil', clr_cons', ofO_some, opIx_tup0, opIx_tup1, fLen_tup, fLen_lst, fTuple_lst, startD, isTy, List.map_cons, List.map_nil, List.length_cons, List.length_nil, List.cons_append, List.nil_append, List.replicate, Nat.reduceAdd, Nat.reduceSub, List.set_cons_zero, List.set_cons_succ, reduceIte, eq_self, Bool.false_eq_true, Bool.not_true, Bool.not_false, Option.bind_some, Bool.xor_false, Bool.xor_true, decide_true, decide_false, opMod_pos (show (0 : Int) < 997 by omega), e]
theorem minus_ok : f_minus_of [.int a, .int b] [] = .ok (.int (opv "minus" a b : Nat)) [] := by
  have e : ((a : Int) - b) % 997 = ((opv "minus" a b : Nat) : Int) := by
    show _ = (((a + 997 - b) % 997 : Nat) : Int)
    omega
  refine runF_pure (S' := []) ?_
  show m_minus_of [some (.int a), some (.int b)] [] = _
  unfold m_minus_of
  refine sRet_ok ?_
  simp only [Out.bind_ok, mBind_app, mRet_app, eVar_0, eVar_1, eVar_2, eVar_3, eVar_4, eVar_5, eVar_6, eVar_7, eVar_8, eVar_9, eVar_10, eK_app, eOp_app, asB_bl, eTest_app, tru_bl, eTru_app, eChain_app, bNot_app, bAnd_app, bOr_app, eNot_app, eAnd_app, eOr_app, eIf_app, eUn_app, lNil_app, lCons_app, eTup_app, eLst_app, eLstM_app, eCall_app, eSlice_app, asI_int, eMeth_app, sNext_app, sNever_app, sBrk_app, sCont_app, sSeq_app, sSet_app, sExpr_app, sRet_app, sRetN_app, sIf_app, sAsg_app, eRg1_app, eIsI_app, opAdd_int, opSub_int, opCmpI_int, opLt_int, opEq_int, tgName_app, tgNil_app, tgCons_app, tgTup_app, clr_nil', clr_cons', ofO_some, opIx_tup0, opIx_tup1, fLen_tup, fLen_lst, fTuple_lst, startD, isTy, List.map_cons, List.map_nil, List.length_cons, List.length_nil, List.cons_append, List.nil_append, List.replicate, Nat.reduceAdd, Nat.reduceSub, List.set_cons_zero, List.set_cons_succ, reduceIte, eq_self, Bool.false_eq_true, Bool.not_true, Bool.not_false, Option.bind_some, Bool.xor_false, Bool.xor_true, decide_true, decide_false, opMod_pos (show (0 : Int) < 997 by omega), e]
theorem times_ok : f_times_of [.int a, .int b] [] = .ok (.int (opv "times" a b : Nat)) [] := by
  have e : ((a : Int) * b) % 997 = ((opv "times" a b : Nat) : Int) := by
    show _ = ((a * b % 997 : Nat) : Int)
    rw [Int.natCast_emod, Int.natCast_mul]
    rfl
  refine runF_pure (S' := []) ?_
  show m_times_of [some (.int a), some (.int b)] [] = _
  unfold m_times_of
  refine sRet_ok ?_
  simp only [Out.bind_ok, mBind_app, mRet_app, eVar_0, eVar_1, eVar_2, eVar_3, eVar_4, eVar_5, eVar_6, eVar_7, eVar_8, eVar_9, eVar_10, eK_app, eOp_app, asB_bl, eTest_app, tru_bl, eTru_app, eChain_app, bNot_app, bAnd_app, bOr_app, eNot_app, eAnd_app, eOr_app, eIf_app, eUn_app, lNil_app, lCons_app, eTup_app, eLst_app, eLstM_app, eCall_app, eSlice_app, asI_int, eMeth_app, sNext_app, sNever_app, sBrk_app, sCont_app, sSeq_app, sSet_app, sExpr_app, sRet_app, sRetN_app, sIf_app, sAsg_app, eRg1_app, eIsI_app, opAdd_int, opSub_int, opCmpI_int, opLt_int, opEq_int, tgName_app, tgNil_app, tgCons_app, tgTup_app, clr_nil', clr_cons', ofO_some, opIx_tup0, opIx_tup1, fLen_tup, fLen_lst, fTuple_lst, startD, isTy, List.map_cons, List.map_nil, List.length_cons, List.length_nil, List.cons_append, List.nil_append, List.replicate, Nat.reduceAdd, Nat.reduceSub, List.set_cons_zero, List.set_cons_succ, reduceIte, eq_self, Bool.false_eq_true, Bool.not_true, Bool.not_false, Option.bind_some, Bool.xor_false, Bool.xor_true, decide_true, decide_false, opMul_l (show ((a : Nat) : Int).natAbs < 2 ^ 64 by omega), opMod_pos (show (0 : Int) < 997 by omega), e]
theorem over_ok : f_over_of [.int a, .int b] [] = .ok (.int (opv "over" a b : Nat)) [] := by
  refine runF_pure (S' := []) ?_
  show m_over_of [some (.int a), some (.int b)] [] = _
  unfold m_over_of
  refine sRet_ok ?_
  by_cases h : b = 0
  · subst h
    simp only [Out.bind_ok, mBind_app, mRet_app, eVar_0, eVar_1, eVar_2, eVar_3, eVar_4, eVar_5, eVar_6, eVar_7, eVar_8, eVar_9, eVar_10, eK_app, eOp_app, asB_bl, eTest_app, tru_bl, eTru_app, eChain_app, bNot_app, bAnd_app, bOr_app, eNot_app, eAnd_app, eOr_app, eIf_app, eUn_app, lNil_app, lCons_app, eTup_app, eLst_app, eLstM_app, eCall_app, eSlice_app, asI_int, eMeth_app, sNext_app, sNever_app, sBrk_app, sCont_app, sSeq_app, sSet_app, sExpr_app, sRet_app, sRetN_app, sIf_app, sAsg_app, eRg1_app, eIsI_app, opAdd_int, opSub_int, opCmpI_int, opLt_int, opEq_int, tgName_app, tgNil_app, tgCons_app, tgTup_app, clr_nil', clr_cons', ofO_some, opIx_tup0, opIx_tup1, fLen_tup, fLen_lst, fTuple_lst, startD, isTy, List.map_cons, List.map_nil, List.length_cons, List.length_nil, List.cons_append, List.nil_append, List.replicate, Nat.reduceAdd, Nat.reduceSub, List.set_cons_zero, List.set_cons_succ, reduceIte, eq_self, Bool.false_eq_true, Bool.not_true, Bool.not_false, Option.bind_some, Bool.xor_false, Bool.xor_true, decide_true, decide_false]
    rfl
  · have h0 : decide ((b : Int) = 0) = false := decide_eq_false (by omega)
    have e : (a : Int) / b = ((opv "over" a b : Nat) : Int) := by
      show _ = (((if b = 0 then 0 else a / b : Nat)) : Int)
      rw [if_neg h, Int.natCast_ediv]
    simp only [Out.bind_ok, mBind_app, mRet_app, eVar_0, eVar_1, eVar_2, eVar_3, eVar_4, eVar_5, eVar_6, eVar_7, eVar_8, eVar_9, eVar_10, eK_app, eOp_app, asB_bl, eTest_app, tru_bl, eTru_app, eChain_app, bNot_app, bAnd_app, bOr_app, eNot_app, eAnd_app, eOr_app, eIf_app, eUn_app, lNil_app, lCons_app, eTup_app, eLst_app, eLstM_app, eCall_app, eSlice_app, asI_int, eMeth_app, sNext_app, sNever_app, sBrk_app, sCont_app, sSeq_app, sSet_app, sExpr_app, sRet_app, sRetN_app, sIf_app, sAsg_app, eRg1_app, eIsI_app, opAdd_int, opSub_int, opCmpI_int, opLt_int, opEq_int, tgName_app, tgNil_app, tgCons_app, tgTup_app, clr_nil', clr_cons', ofO_some, opIx_tup0, opIx_tup1, fLen_tup, fLen_lst, fTuple_lst, startD, isTy, List.map_cons, List.map_nil, List.length_cons, List.length_nil, List.cons_append, List.nil_append, List.replicate, Nat.reduceAdd, Nat.reduceSub, List.set_cons_zero, List.set_cons_succ, reduceIte, eq_self, Bool.false_eq_true, Bool.not_true, Bool.not_false, Option.bind_some, Bool.xor_false, Bool.xor_true, decide_true, decide_false, h0, opDiv_pos (show (0 : Int) < b by omega) (show (b : Int) < 1073741824 by omega), e]
theorem rest_ok : f_rest_of [.int a, .int b] [] = .ok (.int (opv "rest" a b : Nat)) [] := by
  refine runF_pure (S' := []) ?_
  show m_rest_of [some (.int a), some (.int b)] [] = _
  unfold m_rest_of
  refine sRet_ok ?_
  by_cases h : b = 0
  · subst h
    simp only [Out.bind_ok, mBind_app, mRet_app, eVar_0, eVar_1, eVar_2, eVar_3, eVar_4, eVar_5, eVar_6, eVar_7, eVar_8, eVar_9, eVar_10, eK_app, eOp_app, asB_bl, eTest_app, tru_bl, eTru_app, eChain_app, bNot_app, bAnd_app, bOr_app, eNot_app, eAnd_app, eOr_app, eIf_app, eUn_app, lNil_app, lCons_app, eTup_app, eLst_app, eLstM_app, eCall_app, eSlice_app, asI_int, eMeth_app, sNext_app, sNever_app, sBrk_app, sCont_app, sSeq_app, sSet_app, sExpr_app, sRet_app, sRetN_app, sIf_app, sAsg_app, eRg1_app, eIsI_app, opAdd_int, opSub_int, opCmpI_int, opLt_int, opEq_int, tgName_app, tgNil_app, tgCons_app, tgTup_app, clr_nil', clr_cons', ofO_some, opIx_tup0, opIx_tup1, fLen_tup, fLen_lst, fTuple_lst, startD, isTy, List.map_cons, List.map_nil, List.length_cons, List.length_nil, List.cons_append, List.nil_append, List.replicate, Nat.reduceAdd, Nat.reduceSub, List.set_cons_zero, List.set_cons_succ, reduceIte, eq_self, Bool.false_eq_true, Bool.not_true, Bool.not_false, Option.bind_some, Bool.xor_false, Bool.xor_true, decide_true, decide_false]
    rfl
  · have h0 : decide ((b : Int) = 0) = false := decide_eq_false (by omega)
    have e : (a : Int) % b = ((opv "rest" a b : Nat) : Int) := by
      show _ = (((if b = 0 then 0 else a % b : Nat)) : Int)
      rw [if_neg h, Int.natCast_emod]
    simp only [Out.bind_ok, mBind_app, mRet_app, eVar_0, eVar_1, eVar_2, eVar_3, eVar_4, eVar_5, eVar_6, eVar_7, eVar_8, eVar_9, eVar_10, eK_app, eOp_app, asB_bl, eTest_app, tru_bl, eTru_app, eChain_app, bNot_app, bAnd_app, bOr_app, eNot_app, eAnd_app, eOr_app, eIf_app, eUn_app, lNil_app, lCons_app, eTup_app, eLst_app, eLstM_app, eCall_app, eSlice_app, asI_int, eMeth_app, sNext_app, sNever_app, sBrk_app, sCont_app, sSeq_app, sSet_app, sExpr_app, sRet_app, sRetN_app, sIf_app, sAsg_app, eRg1_app, eIsI_app, opAdd_int, opSub_int, opCmpI_int, opLt_int, opEq_int, tgName_app, tgNil_app, tgCons_app, tgTup_app, clr_nil', clr_cons', ofO_some, opIx_tup0, opIx_tup1, fLen_tup, fLen_lst, fTuple_lst, startD, isTy, List.map_cons, List.map_nil, List.length_cons, List.length_nil, List.cons_append, List.nil_append, List.replicate, Nat.reduceAdd, Nat.reduceSub, List.set_cons_zero, List.set_cons_succ, reduceIte, eq_self, Bool.false_eq_true, Bool.not_true, Bool.not_false, Option.bind_some, Bool.xor_false, Bool.xor_true, decide_true, decide_false, h0, opMod_pos (show (0 : Int) < b by omega), e]
theorem less_ok : f_less_of [.int a, .int b] [] = .ok (.int (opv "less" a b : Nat)) [] := by
  have hi : ∀ (k : Bool) S, fInt [.bl k] S = .ok (.int (if k then 1 else 0)) S := fun _ _ => rfl
  refine runF_pure (S' := []) ?_
  show m_less_of [some (.int a), some (.int b)] [] = _
  unfold m_less_of
  refine sRet_ok ?_
  have e : (if decide ((a : Int) < b) = true then (1 : Int) else 0) = ((opv "less" a b : Nat) : Int) := by
    show _ = (((if a < b then 1 else 0 : Nat)) : Int)
    by_cases h : a < b
    · rw [if_pos h, if_pos (decide_eq_true (by omega))]; rfl
    · rw [if_neg h, if_neg (by rw [decide_eq_true_eq]; omega)]; rfl
  simp only [Out.bind_ok, mBind_app, mRet_app, eVar_0, eVar_1, eVar_2, eVar_3, eVar_4, eVar_5, eVar_6, eVar_7, eVar_8, eVar_9, eVar_10, eK_app, eOp_app, asB_bl, eTest_app, tru_bl, eTru_app, eChain_app, bNot_app, bAnd_app, bOr_app, eNot_app, eAnd_app, eOr_app, eIf_app, eUn_app, lNil_app, lCons_app, eTup_app, eLst_app, eLstM_app, eCall_app, eSlice_app, asI_int, eMeth_app, sNext_app, sNever_app, sBrk_app, sCont_app, sSeq_app, sSet_app, sExpr_app, sRet_app, sRetN_app, sIf_app, sAsg_app, eRg1_app, eIsI_app, opAdd_int, opSub_int, opCmpI_int, opLt_int, opEq_int, tgName_app, tgNil_app, tgCons_app, tgTup_app, clr_nil', clr_cons', ofO_some, opIx_tup0, opIx_tup1, fLen_tup, fLen_lst, fTuple_lst, startD, isTy, List.map_cons, List.map_nil, List.length_cons, List.length_nil, List.cons_append, List.nil_append, List.replicate, Nat.reduceAdd, Nat.reduceSub, List.set_cons_zero, List.set_cons_succ, reduceIte, eq_self, Bool.false_eq_true, Bool.not_true, Bool.not_false, Option.bind_some, Bool.xor_false, Bool.xor_true, decide_true, decide_false, hi, e]
theorem same_ok : f_same_of [.int a, .int b] [] = .ok (.int (opv "same" a b : Nat)) [] := by
  have hi : ∀ (k : Bool) S, fInt [.bl k] S = .ok (.int (if k then 1 else 0)) S := fun _ _ => rfl
  refine runF_pure (S' := []) ?_
  show m_same_of [some (.int a), some (.int b)] [] = _
  unfold m_same_of
  refine sRet_ok ?_
  have e : (if decide ((a : Int) = b) = true then (1 : Int) else 0) = ((opv "same" a b : Nat) : Int) := by
    show _ = (((if a = b then 1 else 0 : Nat)) : Int)
    by_cases h : a = b
    · rw [if_pos h, if_pos (decide_eq_true (by omega))]; rfl
    · rw [if_neg h, if_neg (by rw [decide_eq_true_eq]; omega)]; rfl
  simp only [Out.bind_ok, mBind_app, mRet_app, eVar_0, eVar_1, eVar_2, eVar_3, eVar_4, eVar_5, eVar_6, eVar_7, eVar_8, eVar_9, eVar_10, eK_app, eOp_app, asB_bl, eTest_app, tru_bl, eTru_app, eChain_app, bNot_app, bAnd_app, bOr_app, eNot_app, eAnd_app, eOr_app, eIf_app, eUn_app, lNil_app, lCons_app, eTup_app, eLst_app, eLstM_app, eCall_app, eSlice_app, asI_int, eMeth_app, sNext_app, sNever_app, sBrk_app, sCont_app, sSeq_app, sSet_app, sExpr_app, sRet_app, sRetN_app, sIf_app, sAsg_app, eRg1_app, eIsI_app, opAdd_int, opSub_int, opCmpI_int, opLt_int, opEq_int, tgName_app, tgNil_app, tgCons_app, tgTup_app, clr_nil', clr_cons', ofO_some, opIx_tup0, opIx_tup1, fLen_tup, fLen_lst, fTuple_lst, startD, isTy, List.map_cons, List.map_nil, List.length_cons, List.length_nil, List.cons_append, List.nil_append, List.replicate, Nat.reduceAdd, Nat.reduceSub, List.set_cons_zero, List.set_cons_succ, reduceIte, eq_self, Bool.false_eq_true, Bool.not_true, Bool.not_false, Option.bind_some, Bool.xor_false, Bool.xor_true, decide_true, decide_false, hi, e]
theorem low_ok : f_low_of [.int a, .int b] [] = .ok (.int (opv "low" a b : Nat)) [] := by
  refine runF_pure (S' := []) ?_
  show m_low_of [some (.int a), some (.int b)] [] = _
  unfold m_low_of
  refine sRet_ok ?_
  have e : (if (b : Int) < a then (b : Int) else a) = ((opv "low" a b : Nat) : Int) := by
    show _ = ((min a b : Nat) : Int)
    split <;> omega
  have hf : ∀ S, fMin2 [.int a, .int b] S = .ok (.int (if (b : Int) < a then (b : Int) else a)) S := fun _ => rfl
  simp only [Out.bind_ok, mBind_app, mRet_app, eVar_0, eVar_1, eVar_2, eVar_3, eVar_4, eVar_5, eVar_6, eVar_7, eVar_8, eVar_9, eVar_10, eK_app, eOp_app, asB_bl, eTest_app, tru_bl, eTru_app, eChain_app, bNot_app, bAnd_app, bOr_app, eNot_app, eAnd_app, eOr_app, eIf_app, eUn_app, lNil_app, lCons_app, eTup_app, eLst_app, eLstM_app, eCall_app, eSlice_app, asI_int, eMeth_app, sNext_app, sNever_app, sBrk_app, sCont_app, sSeq_app, sSet_app, sExpr_app, sRet_app, sRetN_app, sIf_app, sAsg_app, eRg1_app, eIsI_app, opAdd_int, opSub_int, opCmpI_int, opLt_int, opEq_int, tgName_app, tgNil_app, tgCons_app, tgTup_app, clr_nil', clr_cons', ofO_some, opIx_tup0, opIx_tup1, fLen_tup, fLen_lst, fTuple_lst, startD, isTy, List.map_cons, List.map_nil, List.length_cons, List.length_nil, List.cons_append, List.nil_append, List.replicate, Nat.reduceAdd, Nat.reduceSub, List.set_cons_zero, List.set_cons_succ, reduceIte, eq_self, Bool.false_eq_true, Bool.not_true, Bool.not_false, Option.bind_some, Bool.xor_false, Bool.xor_true, decide_true, decide_false, hf, e]
theorem high_ok : f_high_of [.int a, .int b] [] = .ok (.int (opv "high" a b : Nat)) [] := by
  refine runF_pure (S' := []) ?_
  show m_high_of [some (.int a), some (.int b)] [] = _
  unfold m_high_of
  refine sRet_ok ?_
  have e : (if (b : Int) > a then (b : Int) else a) = ((opv "high" a b : Nat) : Int) := by
    show _ = ((max a b : Nat) : Int)
    split <;> omega
  have hf : ∀ S, fMax2 [.int a, .int b] S = .ok (.int (if (b : Int) > a then (b : Int) else a)) S := fun _ => rfl
  simp only [Out.bind_ok, mBind_app, mRet_app, eVar_0, eVar_1, eVar_2, eVar_3, eVar_4, eVar_5, eVar_6, eVar_7, eVar_8, eVar_9, eVar_10, eK_app, eOp_app, asB_bl, eTest_app, tru_bl, eTru_app, eChain_app, bNot_app, bAnd_app, bOr_app, eNot_app, eAnd_app, eOr_app, eIf_app, eUn_app, lNil_app, lCons_app, eTup_app, eLst_app, eLstM_app, eCall_app, eSlice_app, asI_int, eMeth_app, sNext_app, sNever_app, sBrk_app, sCont_app, sSeq_app, sSet_app, sExpr_app, sRet_app, sRetN_app, sIf_app, sAsg_app, eRg1_app, eIsI_app, opAdd_int, opSub_int, opCmpI_int, opLt_int, opEq_int, tgName_app, tgNil_app, tgCons_app, tgTup_app, clr_nil', clr_cons', ofO_some, opIx_tup0, opIx_tup1, fLen_tup, fLen_lst, fTuple_lst, startD, isTy, List.map_cons, List.map_nil, List.length_cons, List.length_nil, List.cons_append, List.nil_append, List.replicate, Nat.reduceAdd, Nat.reduceSub, List.set_cons_zero, List.set_cons_succ, reduceIte, eq_self, Bool.false_eq_true, Bool.not_true, Bool.not_false, Option.bind_some, Bool.xor_false, Bool.xor_true, decide_true, decide_false, hf, e]
theorem op_ok {x : Str} (hx : x ∈ tmOps) : ∃ f, tabGet tabV x = some f ∧ f [.int a, .int b] [] = .ok (.int (opv x a b : Nat)) [] := by
  simp only [tmOps, List.mem_cons, List.not_mem_nil, or_false] at hx
  rcases hx with rfl | rfl | rfl | rfl | rfl | rfl | rfl | rfl | rfl
  · exact ⟨_, rfl, plus_ok ha hb⟩
  · exact ⟨_, rfl, minus_ok ha hb⟩
  · exact ⟨_, rfl, times_ok ha hb⟩
  · exact ⟨_, rfl, over_ok ha hb⟩
  · exact ⟨_, rfl, rest_ok ha hb⟩
  · exact ⟨_, rfl, less_ok ha hb⟩
  · exact ⟨_, rfl, same_ok ha hb⟩
  · exact ⟨_, rfl, low_ok ha hb⟩
  · exact ⟨_, rfl, high_ok ha hb⟩
theorem tab_call {x : Str} (hx : x ∈ tmOps) {mk m m2 : DM D} {σ : Sl} {S S' S2 S3 : Sto} (hk : mk σ S = .ok (.str x) S') (h : m σ S' = .ok (.int a) S2) (h2 : m2 σ S2 = .ok (.int b) S3) :
    eTabCall 2 tabV mk (lCons m (lCons m2 lNil)) σ S = .ok (.int (opv x a b : Nat)) S3 := by
  obtain ⟨f, hf, e⟩ := op_ok ha hb hx
  exact eTabCall2_ok hk hf h h2 (callF_pd (n := 2) (ds := [.int a, .int b]) (d := .int (opv x a b : Nat)) e rfl rfl rfl rfl _ _)
end
/-! ### leaves -/
/-- a heap: exact, or just a tuple -/
def hD (k : Bool) (hp : List Nat) : D := if k = true then .xt (hp.map nt) else .tup (hp.map nt)
theorem leaf_worth_ok {x : Str} (hx : x ∈ tmLvs) {w : Nat} {hp : List Nat} {k : Bool} : f_leaf_worth [.tup [.str x], .int w, hD k hp] [] = .ok (.int (lfv x w hp : Nat)) [] := by
  have hi := fun S => opIn_str (x := x) (ls := ["sum", "least", "most"]) (lvs_words x hx) (by decide) false S
  have he : ∀ (y : Str) σ S, eVar 3 σ S = .ok (.str x) S → eTest (eOp (opEq false) (eVar 3) (eK (.str y))) σ S = .ok (decide (x = y)) S := fun y σ S h =>
    eTest_bl (eOp_ok (d := .str x) (e := .str y) (S' := S) (S2 := S) h rfl ((opEq_str false x y S).trans (by rw [Bool.xor_false])))
  have hin : ∀ σ S, eVar 3 σ S = .ok (.str x) S → eTest (eOp (opIn false) (eVar 3) (eK (.pd (PyData.tuple (List.map PyData.str ["sum", "least", "most"]))))) σ S = .ok (decide (x ∈ (["sum", "least", "most"] : List Str))) S := fun σ S h =>
    eTest_bl (eOp_ok (d := .str x) (e := .tup ((["sum", "least", "most"] : List Str).map .str)) (S' := S) (S2 := S) h rfl ((hi S).trans (by rw [Bool.xor_false])))
  have hm : decide (x = ("many" : Str)) = false := decide_eq_false (lvs_not x hx).1
  refine runF_pure (S' := []) ?_
  show m_leaf_worth [some (.tup [.str x]), some (.int w), some (hD k hp), none] [] = _
  unfold m_leaf_worth
  refine (sSeq_next (sSet_ok (d := .str x) (S' := []) (eOp_ok (d := .tup [.str x]) (e := .int 0) (S' := []) (S2 := []) rfl rfl (opIx_tup0 _ _)))).trans ?_
  show (sSeq _ _) [some (.tup [.str x]), some (.int w), some (hD k hp), some (.str x)] [] = _
  have e2 : eVarW 2 [some (.tup [.str x]), some (.int w), some (hD k hp), some (.str x)] [] = .ok (.tup (hp.map nt)) [] := by cases k <;> rfl
  by_cases h1 : x = "ties"
  · subst h1
    refine sSeq_ret ((sIf_t ((he "ties" _ _ rfl).trans (by rw [decide_eq_true rfl]))).trans (sRet_ok (eCall1_ok e2 ?_)))
    rw [fLen_tup, List.length_map]
    rfl
  refine (sSeq_next ((sIf_f ((he "ties" _ _ rfl).trans (by rw [decide_eq_false h1]))).trans rfl)).trans ?_
  refine (sSeq_next ((sIf_f ((he "many" _ _ rfl).trans (by rw [hm]))).trans rfl)).trans ?_
  by_cases h2 : x = "sum"
  · subst h2
    refine sSeq_ret ((sIf_t ((he "sum" _ _ rfl).trans (by rw [decide_eq_true rfl]))).trans (sRet_ok ?_))
    refine eOp_ok (d := .int (hp.sum : Nat)) (e := .int 997) (S' := []) (S2 := []) (eCall1_ok e2 (fSum1Q_nts hp)) rfl ?_
    rw [opMod_pos (by omega)]
    have e : ((hp.sum : Nat) : Int) % 997 = ((lfv "sum" w hp : Nat) : Int) := by
      show _ = ((hp.sum % 997 : Nat) : Int)
      omega
    rw [e]
  refine (sSeq_next ((sIf_f ((he "sum" _ _ rfl).trans (by rw [decide_eq_false h2]))).trans rfl)).trans ?_
  by_cases h3 : x = "least"
  · subst h3
    refine sSeq_ret ((sIf_t ((hin _ _ rfl).trans (by rw [decide_eq_true (by decide)]))).trans (sRet_ok ?_))
    rw [eIf_app, he "least" _ _ rfl, decide_eq_true rfl]
    exact eCallK_ok (k := eK (.int 0)) (S2 := []) e2 rfl (fMinDf_nts hp)
  by_cases h4 : x = "most"
  · subst h4
    refine sSeq_ret ((sIf_t ((hin _ _ rfl).trans (by rw [decide_eq_true (by decide)]))).trans (sRet_ok ?_))
    rw [eIf_app, he "least" _ _ rfl, decide_eq_false (by decide)]
    exact eCallK_ok (k := eK (.int 0)) (S2 := []) e2 rfl (fMaxDf_nts hp)
  have h5 : x ∉ (["sum", "least", "most"] : List Str) := by simp [h2, h3, h4]
  refine (sSeq_next ((sIf_f ((hin _ _ rfl).trans (by rw [decide_eq_false h5]))).trans rfl)).trans ?_
  have e : lfv x w hp = w := by
    unfold lfv
    rw [if_neg h1, if_neg h2, if_neg h3, if_neg h4]
  rw [e]
  rfl
theorem many_worth_ok {k : Nat} {w : Nat} {hp : List Nat} : f_leaf_worth [.tup [.str "many", .int k], .int w, .xt (hp.map nt)] [] = .ok (.int (hp.count k : Nat)) [] := by
  refine runF_pure (S' := []) ?_
  show m_leaf_worth [some (.tup [.str "many", .int k]), some (.int w), some (.xt (hp.map nt)), none] [] = _
  unfold m_leaf_worth
  refine (sSeq_next (sSet_ok (d := .str "many") (S' := []) (eOp_ok (d := .tup [.str "many", .int k]) (e := .int 0) (S' := []) (S2 := []) rfl rfl (opIx_tup0 _ _)))).trans ?_
  refine (sSeq_next (σ' := [some (.tup [.str "many", .int k]), some (.int w), some (.xt (hp.map nt)), some (.str "many")]) (S' := []) ((sIf_f (S' := []) (eTest_bl (eOp_ok (d := .str "many") (e := .str "ties") (S' := []) (S2 := []) rfl rfl rfl))).trans rfl)).trans ?_
  refine sSeq_ret ((sIf_t (S' := []) (eTest_bl (eOp_ok (d := .str "many") (e := .str "many") (S' := []) (S2 := []) rfl rfl rfl))).trans (sRet_ok ?_))
  refine eCntX_ok (xs := hp.map nt) (d := .int k) (S' := []) (S2 := []) rfl ?_ (opCnt_nts hp k)
  exact eOp_ok (d := .tup [.str "many", .int k]) (e := .int 1) (S' := []) (S2 := []) rfl rfl (opIx_tup1 _ _ _)
end K04
end
section
namespace K04
open PySem PySem.Spec PyProof.Rows L2 DL
/-! ### worth_by -/
abbrev opsT : List (Str × Str) := [("plus", "plus_of"), ("minus", "minus_of"), ("times", "times_of"), ("over", "over_of"), ("rest", "rest_of"), ("less", "less_of"), ("same", "same_of"), ("low", "low_of"), ("high", "high_of")]
abbrev opsN : List Str := ["if", "law_comeright_k04_what_terms_come_to", "least", "many", "most", "own", "sum", "ties", "word"]
noncomputable def tailW (R : DF) : DM Fl := (sSeq (sIf (eTest (eTabIn false opsT opsN (eVar 3))) (sSeq (sAsg (tgSq (tgCons (tgName 5) (tgCons (tgName 6) tgNil))) (eLc [10] (iSeq (eVar 4)) (tgName 10) (mRet true) (qworth_by_e1 R)))
    (sRet (eTabCall 2 tabV (eVar 3) (lCons (eVar 5) (lCons (eVar 6) lNil))))) sNext)
    (sSeq (sIf (eTest (eOp (opEq false) (eVar 3) (eK (.str "if")))) (sSeq (sAsg (tgSq (tgCons (tgName 7) (tgCons (tgName 8) (tgCons (tgName 9) tgNil)))) (eVar 4))
    (sRet (mBind (lCons (eIf (eTest (eOp (opEq true) (mBind (lCons (eVar 7) (lCons (eVar 1) (lCons (eVar 2) lNil))) (callF 3 R)) (eK (.int 0)))) (eVar 8) (eVar 9)) (lCons (eVar 1) (lCons (eVar 2) lNil))) (callF 3 R)))) sNext)
    (sRet (mBind (lCons (eVar 0) (lCons (eVar 1) (lCons (eVar 2) lNil))) (callF 3 f_leaf_worth)))))
theorem wb_open {R : DF} {W H : D} (x : Str) (r : List PyData) :
    m_worth_by R [some (.tup (.str x :: r)), some W, some H, none, none, none, none, none, none, none, none] [] = tailW R [some (.tup (.str x :: r)), some W, some H, some (.str x), some (.lst r), none, none, none, none, none, none] [] := by
  unfold m_worth_by
  refine (sSeq_next (σ' := [some (.tup (.str x :: r)), some W, some H, none, none, none, none, none, none, none, none]) (S' := []) (by simp only [Out.bind_ok, mBind_app, mRet_app, eVar_0, eVar_1, eVar_2, eVar_3, eVar_4, eVar_5, eVar_6, eVar_7, eVar_8, eVar_9, eVar_10, eK_app, eOp_app, asB_bl, eTest_app, tru_bl, eTru_app, eChain_app, bNot_app, bAnd_app, bOr_app, eNot_app, eAnd_app, eOr_app, eIf_app, eUn_app, lNil_app, lCons_app, eTup_app, eLst_app, eLstM_app, eCall_app, eSlice_app, asI_int, eMeth_app, sNext_app, sNever_app, sBrk_app, sCont_app, sSeq_app, sSet_app, sExpr_app, sRet_app, sRetN_app, sIf_app, sAsg_app, eRg1_app, eIsI_app, opAdd_int, opSub_int, opCmpI_int, opLt_int, opEq_int, tgName_app, tgNil_app, tgCons_app, tgTup_app, clr_nil', clr_cons', ofO_some, opIx_tup0, opIx_tup1, fLen_tup, fLen_lst, fTuple_lst, startD, isTy, List.map_cons, List.map_nil, List.length_cons, List.length_nil, List.cons_append, List.nil_append, List.replicate, Nat.reduceAdd, Nat.reduceSub, List.set_cons_zero, List.set_cons_succ, reduceIte, eq_self, Bool.false_eq_true, Bool.not_true, Bool.not_false, Option.bind_some, Bool.xor_false, Bool.xor_true, decide_true, decide_false])).trans ?_
  refine (sSeq_next (star1_ok (x := .str x) (r := r) (S' := []) rfl)).trans ?_
  rfl
theorem worth_by_ok {w : Nat} {hp : List Nat} (h : GH w hp) {k : Bool} : ∀ (t : Trm), t.Wf → k = true ∨ t.inL fLvs = true → ∀ n : Nat, t.dep < n → F_worth_by n [.pd t.enc, .int w, hD k hp] [] = .ok (.int (t.val w hp : Nat)) []
  | _, _, _, 0, hn => by omega
  | .num i, _, _, n + 1, _ => by
    rw [F_worth_by_succ]
    refine runF_pure (S' := []) ?_
    show m_worth_by (F_worth_by n) [some (.int i), some (.int w), some (hD k hp), none, none, none, none, none, none, none, none] [] = _
    unfold m_worth_by
    exact sSeq_ret ((sIf_t (S' := []) (by simp only [Out.bind_ok, mBind_app, mRet_app, eVar_0, eVar_1, eVar_2, eVar_3, eVar_4, eVar_5, eVar_6, eVar_7, eVar_8, eVar_9, eVar_10, eK_app, eOp_app, asB_bl, eTest_app, tru_bl, eTru_app, eChain_app, bNot_app, bAnd_app, bOr_app, eNot_app, eAnd_app, eOr_app, eIf_app, eUn_app, lNil_app, lCons_app, eTup_app, eLst_app, eLstM_app, eCall_app, eSlice_app, asI_int, eMeth_app, sNext_app, sNever_app, sBrk_app, sCont_app, sSeq_app, sSet_app, sExpr_app, sRet_app, sRetN_app, sIf_app, sAsg_app, eRg1_app, eIsI_app, opAdd_int, opSub_int, opCmpI_int, opLt_int, opEq_int, tgName_app, tgNil_app, tgCons_app, tgTup_app, clr_nil', clr_cons', ofO_some, opIx_tup0, opIx_tup1, fLen_tup, fLen_lst, fTuple_lst, startD, isTy, List.map_cons, List.map_nil, List.length_cons, List.length_nil, List.cons_append, List.nil_append, List.replicate, Nat.reduceAdd, Nat.reduceSub, List.set_cons_zero, List.set_cons_succ, reduceIte, eq_self, Bool.false_eq_true, Bool.not_true, Bool.not_false, Option.bind_some, Bool.xor_false, Bool.xor_true, decide_true, decide_false])).trans (sRet_ok rfl))
  | .leaf x, hx, _, n + 1, _ => by
    have hx : x ∈ tmLvs := hx
    have hi : decide (x = ("if" : Str)) = false := decide_eq_false (lvs_not x hx).2.1
    rw [F_worth_by_succ]
    refine runF_pure (S' := []) ?_
    refine (wb_open x []).trans ?_
    unfold tailW
    refine (sSeq_next ((sIf_f (S' := []) (eTest_bl (k := false) (eTabIn_no (ks := opsT) (no := opsN) (z := x) (S' := []) rfl (lvs_not x hx).2.2 ?_))).trans rfl)).trans ?_
    · have h := hx
      simp only [tmLvs, List.mem_cons, List.not_mem_nil, or_false] at h
      rcases h with rfl | rfl | rfl | rfl | rfl | rfl <;> decide
    refine (sSeq_next ((sIf_f (S' := []) (eTest_bl (k := false) (eOp_ok (d := .str x) (e := .str "if") (S' := []) (S2 := []) rfl rfl ((opEq_str false x "if" []).trans (by rw [hi]; rfl))))).trans rfl)).trans ?_
    refine sRet_ok (call3_ok (d := .tup [.str x]) (e := .int w) (e3 := hD k hp) (S' := []) (S2 := []) (S3 := []) rfl rfl rfl ?_)
    exact callF_pd (n := 3) (ds := [.tup [.str x], .int w, hD k hp]) (d := .int (lfv x w hp : Nat)) (leaf_worth_ok hx) (by cases k <;> rfl) (by cases k <;> rfl) rfl rfl _ _
  | .many q, hk, hx, n + 1, _ => by
    have hx : k = true := hx.resolve_right (by show ¬ (decide (("sum" : Str) ∈ fLvs) = true); decide)
    subst hx
    show F_worth_by (n + 1) [.tup [.str "many", .int q], .int w, .xt (hp.map nt)] [] = .ok (.int (hp.count q : Nat)) []
    rw [F_worth_by_succ]
    refine runF_pure (S' := []) ?_
    refine (wb_open "many" [.int q]).trans ?_
    unfold tailW
    refine (sSeq_next ((sIf_f (S' := []) (eTest_bl (k := false) (eTabIn_no (ks := opsT) (no := opsN) (z := "many") (S' := []) rfl (by decide) (by decide)))).trans rfl)).trans ?_
    refine (sSeq_next ((sIf_f (S' := []) (eTest_bl (k := false) (eOp_ok (d := .str "many") (e := .str "if") (S' := []) (S2 := []) rfl rfl rfl))).trans rfl)).trans ?_
    refine sRet_ok (call3_ok (d := .tup [.str "many", .int q]) (e := .int w) (e3 := D.xt (hp.map nt)) (S' := []) (S2 := []) (S3 := []) rfl rfl rfl ?_)
    exact callF_pd (n := 3) (ds := [.tup [.str "many", .int q], .int w, D.xt (hp.map nt)]) (d := .int (hp.count q : Nat)) many_worth_ok rfl rfl rfl rfl _ _
  | .op x a b, ⟨hx, ha, hb⟩, hq, n + 1, hn => by
    have qa : k = true ∨ a.inL fLvs = true := hq.imp id fun e => (Bool.and_eq_true _ _ ▸ (show (a.inL fLvs && b.inL fLvs) = true from e)).1
    have qb : k = true ∨ b.inL fLvs = true := hq.imp id fun e => (Bool.and_eq_true _ _ ▸ (show (a.inL fLvs && b.inL fLvs) = true from e)).2
    have hnn : 1 + max a.dep b.dep < n + 1 := hn
    have ea := worth_by_ok h a ha qa n (by omega)
    have eb := worth_by_ok h b hb qb n (by omega)
    rw [F_worth_by_succ]
    refine runF_pure (S' := []) ?_
    refine (wb_open x [a.enc, b.enc]).trans ?_
    unfold tailW
    refine sSeq_ret ((sIf_t (S' := []) (eTest_bl (k := true) (eTabIn_yes (ks := opsT) (no := opsN) (z := x) (S' := []) rfl hx))).trans ?_)
    have e : eLc [10] (iSeq (eVar 4)) (tgName 10) (mRet true) (qworth_by_e1 (F_worth_by n)) [some (.tup [.str x, a.enc, b.enc]), some (.int w), some (hD k hp), some (.str x), some (.lst [a.enc, b.enc]), none, none, none, none, none, none] [] = .ok (.lst (([a, b] : List Trm).map fun t => nt (t.val w hp))) [] :=
      eLc_all (gu := .no) [a, b] (fun t => .pd t.enc) (fun t => nt (t.val w hp)) ((iSeq_lst (xs := [a.enc, b.enc]) rfl).trans rfl) (by exact trivial) (fun t ht => ⟨[_, _, _, _, _, _, _, _, _, _, some (.pd t.enc)], rfl, by
        unfold qworth_by_e1
        refine call3_ok (d := .pd t.enc) (e := .int w) (e3 := hD k hp) (S' := []) (S2 := []) (S3 := []) rfl rfl rfl (callF_pd (n := 3) (d := .int (t.val w hp : Nat)) ?_ (by cases k <;> rfl) (by cases k <;> rfl) rfl rfl _ _)
        simp only [List.mem_cons, List.not_mem_nil, or_false] at ht
        rcases ht with rfl | rfl
        · exact ea
        · exact eb⟩) (le_size (by simp))
    refine (sSeq_next (σ' := [some (.tup [.str x, a.enc, b.enc]), some (.int w), some (hD k hp), some (.str x), some (.lst [a.enc, b.enc]), some (.int (a.val w hp : Nat)), some (.int (b.val w hp : Nat)), none, none, none, none]) (S' := []) ?_).trans ?_
    · rw [sAsg_app, e]
      rfl
    exact sRet_ok (tab_call (val_lt h a ha) (val_lt h b hb) hx rfl rfl rfl)
  | .cond c a b, ⟨hc, ha, hb⟩, hq, n + 1, hn => by
    have q3 : k = true ∨ (c.inL fLvs = true ∧ a.inL fLvs = true ∧ b.inL fLvs = true) := hq.imp id fun e => by simpa [Trm.inL] using e
    have qc : k = true ∨ c.inL fLvs = true := q3.imp id (·.1)
    have qa : k = true ∨ a.inL fLvs = true := q3.imp id (·.2.1)
    have qb : k = true ∨ b.inL fLvs = true := q3.imp id (·.2.2)
    have hnn : 1 + max c.dep (max a.dep b.dep) < n + 1 := hn
    have ec := worth_by_ok h c hc qc n (by omega)
    have ea := worth_by_ok h a ha qa n (by omega)
    have eb := worth_by_ok h b hb qb n (by omega)
    rw [F_worth_by_succ]
    refine runF_pure (S' := []) ?_
    refine (wb_open "if" [c.enc, a.enc, b.enc]).trans ?_
    unfold tailW
    refine (sSeq_next ((sIf_f (S' := []) (eTest_bl (k := false) (eTabIn_no (ks := opsT) (no := opsN) (z := "if") (S' := []) rfl (by decide) (by decide)))).trans rfl)).trans ?_
    refine sSeq_ret ((sIf_t (S' := []) (eTest_bl (k := true) (eOp_ok (d := .str "if") (e := .str "if") (S' := []) (S2 := []) rfl rfl rfl))).trans ?_)
    refine (sSeq_next (σ' := [some (.tup [.str "if", c.enc, a.enc, b.enc]), some (.int w), some (hD k hp), some (.str "if"), some (.lst [c.enc, a.enc, b.enc]), none, none, some (.pd c.enc), some (.pd a.enc), some (.pd b.enc), none]) (S' := []) rfl).trans ?_
    have e1 : eTest (eOp (opEq true) (mBind (lCons (eVar 7) (lCons (eVar 1) (lCons (eVar 2) lNil))) (callF 3 (F_worth_by n))) (eK (.int 0))) [some (.tup [.str "if", c.enc, a.enc, b.enc]), some (.int w), some (hD k hp), some (.str "if"), some (.lst [c.enc, a.enc, b.enc]), none, none, some (.pd c.enc), some (.pd a.enc), some (.pd b.enc), none] [] = .ok (decide (((c.val w hp : Nat) : Int) = 0) ^^ true) [] :=
      eTest_bl (eOp_ok (d := .int (c.val w hp : Nat)) (e := .int 0) (S' := []) (S2 := []) (call3_ok (d := .pd c.enc) (e := .int w) (e3 := hD k hp) (S' := []) (S2 := []) (S3 := []) rfl rfl rfl (callF_pd (n := 3) (d := .int (c.val w hp : Nat)) ec (by cases k <;> rfl) (by cases k <;> rfl) rfl rfl _ _)) rfl (opEq_int true _ _ _))
    by_cases h0 : c.val w hp = 0
    · have hv : Trm.val w hp (.cond c a b) = b.val w hp := by
        show (if Trm.val w hp c = 0 then Trm.val w hp b else Trm.val w hp a) = _
        rw [if_pos h0]
      have e2 : (decide (((c.val w hp : Nat) : Int) = 0) ^^ true) = false := by
        rw [decide_eq_true (by omega)]; rfl
      rw [e2] at e1
      rw [hv]
      refine sRet_ok (call3_ok (d := .pd b.enc) (e := .int w) (e3 := hD k hp) (S' := []) (S2 := []) (S3 := []) ?_ rfl rfl (callF_pd (n := 3) (d := .int (b.val w hp : Nat)) eb (by cases k <;> rfl) (by cases k <;> rfl) rfl rfl _ _))
      rw [eIf_app, e1]
      rfl
    · have hv : Trm.val w hp (.cond c a b) = a.val w hp := by
        show (if Trm.val w hp c = 0 then Trm.val w hp b else Trm.val w hp a) = _
        rw [if_neg h0]
      have e2 : (decide (((c.val w hp : Nat) : Int) = 0) ^^ true) = true := by
        rw [decide_eq_false (by omega)]; rfl
      rw [e2] at e1
      rw [hv]
      refine sRet_ok (call3_ok (d := .pd a.enc) (e := .int w) (e3 := hD k hp) (S' := []) (S2 := []) (S3 := []) ?_ rfl rfl (callF_pd (n := 3) (d := .int (a.val w hp : Nat)) ea (by cases k <;> rfl) (by cases k <;> rfl) rfl rfl _ _))
      rw [eIf_app, e1]
      rfl
end K04
end
section
namespace K04
open PySem PySem.Spec PyProof.Rows L2 DL
structure GD (t : Trm) : Prop where
  wf : t.Wf
  dep : t.dep ≤ 5
  inl : t.inL fLvs = true ∨ t.inL nLvs = true
  sz : t.sz ≤ 40
theorem GD.either {t : Trm} (h : GD t) : le40 (szO fLvs t) = true ∨ le40 (szO nLvs t) = true := by
  unfold szO
  rcases h.inl with e | e
  · left; rw [if_pos e]; exact decide_eq_true h.sz
  · right; rw [if_pos e]; exact decide_eq_true h.sz
theorem need_term_ok {t : Trm} (h : GD t) : f_need_term [.pd t.enc] [] = .ok .non [] := by
  have e1 := fun σ S => callF_pd (n := 1) (ds := [.pd t.enc]) (is_first_ok t h.wf h.dep) rfl rfl rfl rfl σ S
  have e2 := fun σ S => callF_pd (n := 1) (ds := [.pd t.enc]) (is_next_ok t h.wf h.dep) rfl rfl rfl rfl σ S
  refine runF_next (S' := []) (σ := [some (.pd t.enc)]) ?_
  show m_need_term [some (.pd t.enc)] [] = _
  unfold m_need_term
  refine (sIf_f (S' := []) ?_).trans rfl
  rw [bAnd_app, bNot_ok (eTru_bl (call1_ok (d := .pd t.enc) (S' := []) rfl (e1 _ _))), Out.bind_ok]
  rcases h.either with q | q
  · rw [q]; rfl
  · cases le40 (szO fLvs t) with
    | true => rfl
    | false =>
      show bNot _ _ _ = _
      rw [bNot_ok (eTru_bl (call1_ok (d := .pd t.enc) (S' := []) rfl (e2 _ _))), q]
      rfl
theorem are_below_ok {hp : List Nat} (h : ∀ x ∈ hp, x < 997) (hl : hp.length ≤ 100) : f_are_below [.tup (hp.map nt), .int 997] [] = .ok (.bl true) [] := by
  refine runF_pure (S' := []) ?_
  show m_are_below [some (.tup (hp.map nt)), some (.int 997), none] [] = _
  unfold m_are_below
  refine sRet_ok ?_
  refine (eAnd_t (S' := []) (by simp only [Out.bind_ok, mBind_app, mRet_app, eVar_0, eVar_1, eVar_2, eVar_3, eVar_4, eVar_5, eVar_6, eVar_7, eVar_8, eVar_9, eVar_10, eK_app, eOp_app, asB_bl, eTest_app, tru_bl, eTru_app, eChain_app, bNot_app, bAnd_app, bOr_app, eNot_app, eAnd_app, eOr_app, eIf_app, eUn_app, lNil_app, lCons_app, eTup_app, eLst_app, eLstM_app, eCall_app, eSlice_app, asI_int, eMeth_app, sNext_app, sNever_app, sBrk_app, sCont_app, sSeq_app, sSet_app, sExpr_app, sRet_app, sRetN_app, sIf_app, sAsg_app, eRg1_app, eIsI_app, opAdd_int, opSub_int, opCmpI_int, opLt_int, opEq_int, tgName_app, tgNil_app, tgCons_app, tgTup_app, clr_nil', clr_cons', ofO_some, opIx_tup0, opIx_tup1, fLen_tup, fLen_lst, fTuple_lst, startD, isTy, List.map_cons, List.map_nil, List.length_cons, List.length_nil, List.cons_append, List.nil_append, List.replicate, Nat.reduceAdd, Nat.reduceSub, List.set_cons_zero, List.set_cons_succ, reduceIte, eq_self, Bool.false_eq_true, Bool.not_true, Bool.not_false, Option.bind_some, Bool.xor_false, Bool.xor_true, decide_true, decide_false])).trans ?_
  have e : eLc [2] (iSeq (eVar 0)) (tgName 2) (mRet true) qare_below_e1 [some (.tup (hp.map nt)), some (.int 997), none] [] = .ok (.lst (hp.map fun x => .bool ((fun _ => true) x))) [] :=
    eLc_all (gu := .no) hp (fun x => .int x) (fun x => .bool ((fun _ => true) x)) ((iSeq_tup (xs := hp.map nt) rfl).trans (by rw [List.map_map]; rfl)) (by exact trivial) (fun x hx => ⟨[_, _, some (.int x)], rfl, by
      unfold qare_below_e1
      refine call2_ok (d := .int x) (e := .int 997) (S' := []) (S2 := []) rfl rfl (callF_pd (n := 2) (d := .bl true) ?_ rfl rfl rfl rfl _ _)
      rw [is_below_int]
      have := h x hx
      have q : (decide (0 ≤ (x : Int)) && decide ((x : Int) < 997)) = true := by
        simp only [Bool.and_eq_true, decide_eq_true_eq]; omega
      rw [q]⟩) (le_size (by omega))
  refine eCall1_ok e ((fAll_map hp (fun _ => true)).trans ?_)
  rw [List.all_eq_true.mpr (fun _ _ => rfl)]
theorem comes_to_ok {t : Trm} (ht : GD t) {w : Nat} {hp : List Nat} (h : GH w hp) {k : Bool} (hk : k = true ∨ t.inL fLvs = true) : f_comes_to [.pd t.enc, .int w, hD k hp] [] = .ok (.int (t.val w hp : Nat)) [] := by
  have e1 := fun σ S => callF_pd (n := 1) (ds := [.pd t.enc]) (need_term_ok ht) rfl rfl rfl rfl σ S
  have e2 := fun σ S => callF_pd (n := 1) (ds := [.int w]) (is_worth_int w) rfl rfl rfl rfl σ S
  have e3 := fun σ S => callF_pd (n := 2) (ds := [.tup (hp.map nt), .int 997]) (are_below_ok h.all (by have := h.len; omega)) rfl rfl rfl rfl σ S
  have e4 := fun σ S => callF_pd (n := 3) (f := f_worth_by) (ds := [.pd t.enc, .int w, hD k hp]) (d := .int (t.val w hp : Nat)) (worth_by_ok h t ht.wf hk 8 (by have := ht.dep; omega)) (by cases k <;> rfl) (by cases k <;> rfl) rfl rfl σ S
  have q : (decide (0 ≤ (w : Int)) && decide ((w : Int) < 997)) = true := by
    have := h.wl
    simp only [Bool.and_eq_true, decide_eq_true_eq]; omega
  refine runF_pure (S' := []) ?_
  show m_comes_to [some (.pd t.enc), some (.int w), some (hD k hp)] [] = _
  unfold m_comes_to
  refine (sSeq_next (sExpr_ok (call1_ok (d := .pd t.enc) (S' := []) rfl (e1 _ _)))).trans ?_
  refine (sSeq_next ((sIf_f (S' := []) ((bNot_ok (eTru_bl (call1_ok (d := .int w) (S' := []) rfl (e2 _ _)))).trans (by rw [q]; rfl))).trans rfl)).trans ?_
  have ew : eVarW 2 [some (.pd t.enc), some (.int w), some (hD k hp)] [] = .ok (.tup (hp.map nt)) [] := by cases k <;> rfl
  refine (sSeq_next ((sIf_f (S' := []) ((bOr_f (S' := []) ((bNot_ok (eTru_bl (call2_ok (d := .tup (hp.map nt)) (e := .int 997) (S' := []) (S2 := []) ew rfl (e3 _ _)))).trans rfl)).trans ?_)).trans rfl)).trans ?_
  · refine eTest_bl (k := false) ?_
    refine eOp_ok (d := .int hp.length) (e := .int 12) (S' := []) (S2 := []) (eCall1_ok ew (by rw [fLen_tup, List.length_map])) rfl ?_
    rw [opCmpI_int]
    have := h.len
    rw [decide_eq_false (by omega)]
  exact sRet_ok (call3_ok (d := .pd t.enc) (e := .int w) (e3 := hD k hp) (S' := []) (S2 := []) (S3 := []) rfl rfl rfl (e4 _ _))
theorem comes_to_call {t : Trm} (ht : GD t) {w : Nat} {hp : List Nat} (h : GH w hp) {k : Bool} (hk : k = true ∨ t.inL fLvs = true) {m m2 m3 : DM D} {σ : Sl} {S S1 S2 S3 : Sto} (h1 : m σ S = .ok (.pd t.enc) S1) (h2 : m2 σ S1 = .ok (.int w) S2) (h3 : m3 σ S2 = .ok (hD k hp) S3) :
    mBind (lCons m (lCons m2 (lCons m3 lNil))) (callF 3 f_comes_to) σ S = .ok (.int (t.val w hp : Nat)) S3 :=
  call3_ok h1 h2 h3 (callF_pd (n := 3) (ds := [.pd t.enc, .int w, hD k hp]) (d := .int (t.val w hp : Nat)) (comes_to_ok ht h hk) (by cases k <;> rfl) (by cases k <;> rfl) rfl rfl _ _)
end K04
end
section
namespace K04
open PySem PySem.Spec PyProof.Rows L2 DL
/-! ### the law's own reckoning: what an op makes -/
abbrev kosD : List (Str × IOp) := [("plus", .add), ("minus", .sub), ("times", .mul)]
theorem disp_ok {a b : Nat} (ha : a < 997) (hb : b < 997) {x : Str} {σ : Sl} {S : Sto} (h1 : σ[1]? = some (some (.int a))) (h2 : σ[2]? = some (some (.int b))) (h0 : σ[0]? = some (some (.str x))) {p : Str × IOp} (hp : (kosD.find? fun p => decide (p.1 = x)) = some p) : eDispIx kosD 1 2 0 σ S = .ok (.int (p.2.f a b)) S := by
  have hc : (kosD.all fun p => p.2.can (a : Int) (b : Int)) = true := by
    show (true && (true && ((decide ((a : Int).natAbs < 2 ^ 64) && decide ((b : Int).natAbs < 2 ^ 64)) && true))) = true
    rw [decide_eq_true (by omega), decide_eq_true (by omega)]
    rfl
  unfold eDispIx
  rw [h1, h2, h0]
  dsimp only
  rw [if_pos hc, hp]
theorem eIf_t {c : DM Bool} {a b : DM D} {σ : Sl} {S S' : Sto} (h : c σ S = .ok true S') : eIf c a b σ S = a σ S' := by rw [eIf_app, h]; rfl
theorem eIf_f {c : DM Bool} {a b : DM D} {σ : Sl} {S S' : Sto} (h : c σ S = .ok false S') : eIf c a b σ S = b σ S' := by rw [eIf_app, h]; rfl
theorem made_ok {a b : Nat} (ha : a < 997) (hb : b < 997) {x : Str} (hx : x ∈ tmOps) : f__law_made [.str x, .int a, .int b] [] = .ok (.int (opv x a b : Nat)) [] := by
  have tin : ∀ y z : Str, y ∈ tmWords → z ∈ tmWords → eTest (eOp (opIn false) (eVar 0) (eTup (lCons (eK (.str y)) (lCons (eK (.str z)) lNil)))) [some (.str x), some (.int a), some (.int b)] [] = .ok (decide (x ∈ ([y, z] : List Str))) [] := fun y z hy hz => by
    refine (eTest_bl (eOp_ok (d := .str x) (e := .tup (([y, z] : List Str).map .str)) (S' := []) (S2 := []) rfl (eTup2_ok (S0 := []) (S1 := []) rfl rfl) (opIn_str (ops_words x hx) (fun q hq => ?_) false []))).trans (by rw [Bool.xor_false])
    simp only [List.mem_cons, List.not_mem_nil, or_false] at hq
    rcases hq with rfl | rfl
    · exact hy
    · exact hz
  have c1 := tin "over" "rest" (by decide) (by decide)
  have c2 := tin "less" "same" (by decide) (by decide)
  have c3 := tin "low" "high" (by decide) (by decide)
  have q : ∀ y : Str, eTest (eOp (opEq false) (eVar 0) (eK (.str y))) [some (.str x), some (.int a), some (.int b)] [] = .ok (decide (x = y)) [] := fun y =>
    eTest_bl ((eOp_ok (d := .str x) (e := .str y) (S' := []) (S2 := []) rfl rfl (opEq_str false x y [])).trans (by rw [Bool.xor_false]))
  have z : eTest (eOp (opEq false) (eVar 2) (eK (.int 0))) [some (.str x), some (.int a), some (.int b)] [] = .ok (decide ((b : Int) = 0)) [] :=
    eTest_bl ((eOp_ok (d := .int b) (e := .int 0) (S' := []) (S2 := []) rfl rfl (opEq_int false _ _ _)).trans (by rw [Bool.xor_false]))
  have hi : ∀ (k : Bool) S, fInt [.bl k] S = .ok (.int (if k then 1 else 0)) S := fun _ _ => rfl
  refine runF_pure (S' := []) ?_
  show m__law_made [some (.str x), some (.int a), some (.int b)] [] = _
  unfold m__law_made
  by_cases h1 : x ∈ (["over", "rest"] : List Str)
  · rw [decide_eq_true h1] at c1
    by_cases hb0 : b = 0
    · rw [decide_eq_true (show (b : Int) = 0 by omega)] at z
      have e : opv x a b = 0 := by
        simp only [List.mem_cons, List.not_mem_nil, or_false] at h1
        rcases h1 with rfl | rfl
        · show (if b = 0 then 0 else a / b) = 0
          rw [if_pos hb0]
        · show (if b = 0 then 0 else a % b) = 0
          rw [if_pos hb0]
      rw [e]
      exact sSeq_ret ((sIf_t (S' := []) (by rw [bAnd_app, c1, Out.bind_ok, if_pos rfl, z])).trans (sRet_ok rfl))
    · rw [decide_eq_false (show ¬ (b : Int) = 0 by omega)] at z
      refine (sSeq_next ((sIf_f (S' := []) (by rw [bAnd_app, c1, Out.bind_ok, if_pos rfl, z])).trans rfl)).trans ?_
      refine sSeq_ret ((sIf_t (S' := []) c1).trans (sRet_ok ?_))
      simp only [List.mem_cons, List.not_mem_nil, or_false] at h1
      rcases h1 with rfl | rfl
      · have e : ((a : Int) / b) = ((opv "over" a b : Nat) : Int) := by
          show _ = (((if b = 0 then 0 else a / b : Nat)) : Int)
          rw [if_neg hb0, Int.natCast_ediv]
        rw [← e]
        refine (eIf_t ((q "over").trans (by rw [decide_eq_true rfl]))).trans ?_
        exact eOp_ok (op := opDiv) (m := eVar 1) (m2 := eVar 2) (d := .int a) (e := .int b) (S' := []) (S2 := []) rfl rfl (opDiv_pos (by omega) (by omega) [])
      · have e : ((a : Int) % b) = ((opv "rest" a b : Nat) : Int) := by
          show _ = (((if b = 0 then 0 else a % b : Nat)) : Int)
          rw [if_neg hb0, Int.natCast_emod]
        rw [← e]
        refine (eIf_f ((q "over").trans (by rw [decide_eq_false (by decide)]))).trans ?_
        exact eOp_ok (op := opMod) (m := eVar 1) (m2 := eVar 2) (d := .int a) (e := .int b) (S' := []) (S2 := []) rfl rfl (opMod_pos (by omega) [])
  rw [decide_eq_false h1] at c1
  refine (sSeq_next ((sIf_f (S' := []) (by rw [bAnd_app, c1]; rfl)).trans rfl)).trans ?_
  refine (sSeq_next ((sIf_f (S' := []) c1).trans rfl)).trans ?_
  by_cases h2 : x ∈ (["less", "same"] : List Str)
  · rw [decide_eq_true h2] at c2
    refine sSeq_ret ((sIf_t (S' := []) c2).trans (sRet_ok ?_))
    simp only [List.mem_cons, List.not_mem_nil, or_false] at h2
    rcases h2 with rfl | rfl
    · have e : (if decide ((a : Int) < b) = true then (1 : Int) else 0) = ((opv "less" a b : Nat) : Int) := by
        show _ = (((if a < b then 1 else 0 : Nat)) : Int)
        by_cases h : a < b
        · rw [if_pos h, if_pos (decide_eq_true (by omega))]; rfl
        · rw [if_neg h, if_neg (by rw [decide_eq_true_eq]; omega)]; rfl
      rw [← e]
      refine (eIf_t ((q "less").trans (by rw [decide_eq_true rfl]))).trans ?_
      exact eCall1_ok (f := fInt) (m := eOp opLt (eVar 1) (eVar 2)) (d := .bl (decide ((a : Int) < b))) (S' := []) (eOp_ok (d := .int a) (e := .int b) (S' := []) (S2 := []) rfl rfl (opLt_int _ _ _)) (hi _ _)
    · have e : (if decide ((a : Int) = b) = true then (1 : Int) else 0) = ((opv "same" a b : Nat) : Int) := by
        show _ = (((if a = b then 1 else 0 : Nat)) : Int)
        by_cases h : a = b
        · rw [if_pos h, if_pos (decide_eq_true (by omega))]; rfl
        · rw [if_neg h, if_neg (by rw [decide_eq_true_eq]; omega)]; rfl
      rw [← e]
      refine (eIf_f ((q "less").trans (by rw [decide_eq_false (by decide)]))).trans ?_
      exact eCall1_ok (f := fInt) (m := eOp (opEq false) (eVar 1) (eVar 2)) (d := .bl (decide ((a : Int) = b))) (S' := []) ((eOp_ok (d := .int a) (e := .int b) (S' := []) (S2 := []) rfl rfl (opEq_int false _ _ _)).trans (by rw [Bool.xor_false])) (hi _ _)
  rw [decide_eq_false h2] at c2
  refine (sSeq_next ((sIf_f (S' := []) c2).trans rfl)).trans ?_
  by_cases h3 : x ∈ (["low", "high"] : List Str)
  · rw [decide_eq_true h3] at c3
    refine sSeq_ret ((sIf_t (S' := []) c3).trans (sRet_ok ?_))
    simp only [List.mem_cons, List.not_mem_nil, or_false] at h3
    rcases h3 with rfl | rfl
    · have e : (if (b : Int) < a then (b : Int) else a) = ((opv "low" a b : Nat) : Int) := by
        show _ = ((min a b : Nat) : Int)
        split <;> omega
      rw [← e]
      refine (eIf_t ((q "low").trans (by rw [decide_eq_true rfl]))).trans ?_
      show eCall fMin2 (lCons (eVar 1) (lCons (eVar 2) lNil)) _ _ = _
      rw [eCall_app]
      rfl
    · have e : (if (b : Int) > a then (b : Int) else a) = ((opv "high" a b : Nat) : Int) := by
        show _ = ((max a b : Nat) : Int)
        split <;> omega
      rw [← e]
      refine (eIf_f ((q "low").trans (by rw [decide_eq_false (by decide)]))).trans ?_
      show eCall fMax2 (lCons (eVar 1) (lCons (eVar 2) lNil)) _ _ = _
      rw [eCall_app]
      rfl
  rw [decide_eq_false h3] at c3
  refine (sSeq_next ((sIf_f (S' := []) c3).trans rfl)).trans (sRet_ok ?_)
  have hr : x = "plus" ∨ x = "minus" ∨ x = "times" := by
    simp only [tmOps, List.mem_cons, List.not_mem_nil, or_false] at hx h1 h2 h3
    rcases hx with h | h | h | h | h | h | h | h | h
    · exact .inl h
    · exact .inr (.inl h)
    · exact .inr (.inr h)
    · exact absurd (.inl h) h1
    · exact absurd (.inr h) h1
    · exact absurd (.inl h) h2
    · exact absurd (.inr h) h2
    · exact absurd (.inl h) h3
    · exact absurd (.inr h) h3
  have fin : ∀ {i : Int} {p : Str × IOp}, (kosD.find? fun p => decide (p.1 = x)) = some p → p.2.f a b = i → i % 997 = ((opv x a b : Nat) : Int) → eOp opMod (eDispIx [("plus", .add), ("minus", .sub), ("times", .mul)] 1 2 0) (eK (.int 997)) [some (.str x), some (.int a), some (.int b)] [] = .ok (.int (opv x a b : Nat)) [] := fun {i p} hp hi2 e => by
    refine eOp_ok (d := .int i) (e := .int 997) (S' := []) (S2 := []) ((disp_ok ha hb rfl rfl rfl hp).trans (by rw [hi2])) rfl ?_
    rw [opMod_pos (by omega), e]
  rcases hr with rfl | rfl | rfl
  · exact fin (i := (a : Int) + b) (p := ("plus", .add)) rfl rfl (by
      show _ = (((a + b) % 997 : Nat) : Int)
      omega)
  · exact fin (i := (a : Int) - b) (p := ("minus", .sub)) rfl rfl (by
      show _ = (((a + 997 - b) % 997 : Nat) : Int)
      omega)
  · exact fin (i := (a : Int) * b) (p := ("times", .mul)) rfl rfl (by
      show _ = ((a * b % 997 : Nat) : Int)
      rw [Int.natCast_emod, Int.natCast_mul]
      rfl)
end K04
end
section
namespace K04
open PySem PySem.Spec PyProof.Rows L2 DL
/-! ### what a term comes to, by the law's own reckoning -/
theorem foldl_min_out : ∀ (r : List Nat) (x y : Nat), r.foldl min (min x y) = min x (r.foldl min y)
  | [], _, _ => rfl
  | z :: r, x, y => by
    show r.foldl min (min (min x y) z) = min x (r.foldl min (min y z))
    rw [show min (min x y) z = min x (min y z) by omega, foldl_min_out r]
theorem foldl_max_out : ∀ (r : List Nat) (x y : Nat), r.foldl max (max x y) = max x (r.foldl max y)
  | [], _, _ => rfl
  | z :: r, x, y => by
    show r.foldl max (max (max x y) z) = max x (r.foldl max (max y z))
    rw [show max (max x y) z = max x (max y z) by omega, foldl_max_out r]
theorem leastI_nts : ∀ (r : List Nat) (x : Nat), leastI ((x : Int) :: r.map fun (z : Nat) => (z : Int)) = ((r.foldl min x : Nat) : Int)
  | [], _ => rfl
  | y :: r, x => by
    show min (x : Int) (leastI ((y : Int) :: r.map fun (z : Nat) => (z : Int))) = _
    rw [leastI_nts r y]
    show _ = ((r.foldl min (min x y) : Nat) : Int)
    rw [foldl_min_out]
    omega
theorem mostI_nts : ∀ (r : List Nat) (x : Nat), mostI ((x : Int) :: r.map fun (z : Nat) => (z : Int)) = ((r.foldl max x : Nat) : Int)
  | [], _ => rfl
  | y :: r, x => by
    show max (x : Int) (mostI ((y : Int) :: r.map fun (z : Nat) => (z : Int))) = _
    rw [mostI_nts r y]
    show _ = ((r.foldl max (max x y) : Nat) : Int)
    rw [foldl_max_out]
    omega
theorem nts_int (l : List Nat) : l.map nt = (l.map fun (z : Nat) => (z : Int)).map PyData.int := by rw [List.map_map]; rfl
theorem intsOf_nts (l : List Nat) (S : Sto) : intsOf S (.lst (l.map nt)) = some (l.map fun (x : Nat) => (x : Int)) := by
  have e : asL S (.lst (l.map nt)) = some ((l.map nt).map .pd) := rfl
  unfold intsOf
  rw [e]
  dsimp only
  rw [pdL_map]
  exact intsL_nts l
theorem fMinL {l : List Nat} (h : l ≠ []) (S : Sto) : fMin1Q [.lst (l.map nt)] S = .ok (.int (lstV min l : Nat)) S := by
  show fMin1 [.lst (l.map nt)] S = _
  unfold fMin1
  dsimp only
  rw [intsOf_nts]
  dsimp only
  cases l with
  | nil => exact absurd rfl h
  | cons x r =>
    rw [List.map_cons, leastI_nts, if_pos (by simp)]
    rfl
theorem fMaxL {l : List Nat} (h : l ≠ []) (S : Sto) : fMax1Q [.lst (l.map nt)] S = .ok (.int (lstV max l : Nat)) S := by
  show fMax1 [.lst (l.map nt)] S = _
  unfold fMax1
  dsimp only
  rw [intsOf_nts]
  dsimp only
  cases l with
  | nil => exact absurd rfl h
  | cons x r =>
    rw [List.map_cons, mostI_nts, if_pos (by simp)]
    rfl
theorem fSumL (l : List Nat) (S : Sto) : fSum1 [.lst (l.map nt)] S = .ok (.int (l.sum : Nat)) S := by
  rw [nts_int, fSum1_ints, sum_cast]
section
variable {x : Str} {a b c d e : Option D}
theorem eq3 (y : Str) : eTest (eOp (opEq false) (eVar 3) (eK (.str y))) [a, b, c, some (.str x), d, e] [] = .ok (decide (x = y)) [] :=
  eTest_bl ((eOp_ok (d := .str x) (e := .str y) (S' := []) (S2 := []) rfl rfl (opEq_str false x y [])).trans (by rw [Bool.xor_false]))
theorem in3 (hx : x ∈ tmWords) {y z : Str} (hy : y ∈ tmWords) (hz : z ∈ tmWords) : eTest (eOp (opIn false) (eVar 3) (eTup (lCons (eK (.str y)) (lCons (eK (.str z)) lNil)))) [a, b, c, some (.str x), d, e] [] = .ok (decide (x ∈ ([y, z] : List Str))) [] := by
  refine (eTest_bl (eOp_ok (d := .str x) (e := .tup (([y, z] : List Str).map .str)) (S' := []) (S2 := []) rfl (eTup2_ok (S0 := []) (S1 := []) rfl rfl) (opIn_str hx (fun q hq => ?_) false []))).trans (by rw [Bool.xor_false])
  simp only [List.mem_cons, List.not_mem_nil, or_false] at hq
  rcases hq with rfl | rfl
  · exact hy
  · exact hz
end
noncomputable def tailV (R : DF) : DM Fl := (sSeq (sIf (eTest (eOp (opIn false) (eVar 3) (eTup (lCons (eK (.str "word")) (lCons (eK (.str "own")) lNil))))) (sRet (eVar 1)) sNext)
    (sSeq (sIf (eTest (eOp (opEq false) (eVar 3) (eK (.str "ties")))) (sRet (eCall fLen (lCons (eVar 2) lNil))) sNext)
    (sSeq (sIf (eTest (eOp (opEq false) (eVar 3) (eK (.str "sum")))) (sRet (eOp opMod (eCall fSum1 (lCons (eVar 2) lNil)) (eK (.int 997)))) sNext)
    (sSeq (sIf (eTest (eOp (opIn false) (eVar 3) (eTup (lCons (eK (.str "least")) (lCons (eK (.str "most")) lNil))))) (sRet (eIf (eTest (eOp (opEq false) (eVar 2) (eLst lNil))) (eK (.int 0)) (eIf (eTest (eOp (opEq false) (eVar 3) (eK (.str "least")))) (eCall fMin1Q (lCons (eVar 2) lNil)) (eCall fMax1Q (lCons (eVar 2) lNil))))) sNext)
    (sSeq (sIf (eTest (eOp (opEq false) (eVar 3) (eK (.str "many")))) (sRet (eCntL (eVar 2) (lCons (eOp opIx (eVar 0) (eK (.int 1))) lNil))) sNext)
    (sSeq (sIf (eTest (eOp (opEq false) (eVar 3) (eK (.str "if")))) (sRet (mBind (lCons (eOp opIx (eVar 0) (eOp opAdd (eK (.int 2)) (eCall fInt (lCons (eOp (opEq false) (mBind (lCons (eOp opIx (eVar 0) (eK (.int 1))) (lCons (eVar 1) (lCons (eVar 2) lNil))) (callF 3 R)) (eK (.int 0))) lNil)))) (lCons (eVar 1) (lCons (eVar 2) lNil))) (callF 3 R))) sNext)
    (sSeq (sPar 4 5 (lCons (mBind (lCons (eOp opIx (eVar 0) (eK (.int 1))) (lCons (eVar 1) (lCons (eVar 2) lNil))) (callF 3 R)) (lCons (mBind (lCons (eOp opIx (eVar 0) (eK (.int 2))) (lCons (eVar 1) (lCons (eVar 2) lNil))) (callF 3 R)) lNil)))
    (sRet (mBind (lCons (eVar 3) (lCons (eVar 4) (lCons (eVar 5) lNil))) (callF 3 f__law_made))))))))))
theorem val_open {R : DF} {W H : D} (x : Str) (r : List PyData) :
    m__law_value R [some (.tup (.str x :: r)), some W, some H, none, none, none] [] = tailV R [some (.tup (.str x :: r)), some W, some H, some (.str x), none, none] [] := by
  unfold m__law_value
  refine (sSeq_next (σ' := [some (.tup (.str x :: r)), some W, some H, none, none, none]) (S' := []) (by simp only [Out.bind_ok, mBind_app, mRet_app, eVar_0, eVar_1, eVar_2, eVar_3, eVar_4, eVar_5, eVar_6, eVar_7, eVar_8, eVar_9, eVar_10, eK_app, eOp_app, asB_bl, eTest_app, tru_bl, eTru_app, eChain_app, bNot_app, bAnd_app, bOr_app, eNot_app, eAnd_app, eOr_app, eIf_app, eUn_app, lNil_app, lCons_app, eTup_app, eLst_app, eLstM_app, eCall_app, eSlice_app, asI_int, eMeth_app, sNext_app, sNever_app, sBrk_app, sCont_app, sSeq_app, sSet_app, sExpr_app, sRet_app, sRetN_app, sIf_app, sAsg_app, eRg1_app, eIsI_app, opAdd_int, opSub_int, opCmpI_int, opLt_int, opEq_int, tgName_app, tgNil_app, tgCons_app, tgTup_app, clr_nil', clr_cons', ofO_some, opIx_tup0, opIx_tup1, fLen_tup, fLen_lst, fTuple_lst, startD, isTy, List.map_cons, List.map_nil, List.length_cons, List.length_nil, List.cons_append, List.nil_append, List.replicate, Nat.reduceAdd, Nat.reduceSub, List.set_cons_zero, List.set_cons_succ, reduceIte, eq_self, Bool.false_eq_true, Bool.not_true, Bool.not_false, Option.bind_some, Bool.xor_false, Bool.xor_true, decide_true, decide_false])).trans ?_
  refine (sSeq_next (sSet_ok (d := .str x) (S' := []) (eOp_ok (d := .tup (.str x :: r)) (e := .int 0) (S' := []) (S2 := []) rfl rfl (opIx_tup0 _ _)))).trans ?_
  rfl
section
variable {w : Nat} {hp : List Nat} {R : DF}
theorem leafV {x : Str} (hx : x ∈ tmLvs) {T : Option D} : tailV R [T, some (.int w), some (.lst (hp.map nt)), some (.str x), none, none] [] = .ok (.ret (.int (lfv x w hp : Nat))) [] := by
  have hw := lvs_words x hx
  unfold tailV
  by_cases h1 : x ∈ (["word", "own"] : List Str)
  · refine sSeq_ret ((sIf_t (S' := []) ((in3 hw (by decide) (by decide)).trans (by rw [decide_eq_true h1]))).trans ?_)
    have e : lfv x w hp = w := by
      simp only [List.mem_cons, List.not_mem_nil, or_false] at h1
      rcases h1 with rfl | rfl <;> rfl
    rw [e]
    rfl
  refine (sSeq_next ((sIf_f (S' := []) ((in3 hw (by decide) (by decide)).trans (by rw [decide_eq_false h1]))).trans rfl)).trans ?_
  by_cases h2 : x = "ties"
  · subst h2
    refine sSeq_ret ((sIf_t (S' := []) ((eq3 "ties").trans (by rw [decide_eq_true rfl]))).trans (sRet_ok (eCall1_ok (d := .lst (hp.map nt)) (S' := []) rfl ?_)))
    rw [fLen_lst, List.length_map]
    rfl
  refine (sSeq_next ((sIf_f (S' := []) ((eq3 "ties").trans (by rw [decide_eq_false h2]))).trans rfl)).trans ?_
  by_cases h3 : x = "sum"
  · subst h3
    refine sSeq_ret ((sIf_t (S' := []) ((eq3 "sum").trans (by rw [decide_eq_true rfl]))).trans (sRet_ok ?_))
    refine eOp_ok (d := .int (hp.sum : Nat)) (e := .int 997) (S' := []) (S2 := []) (eCall1_ok (d := .lst (hp.map nt)) (S' := []) rfl (fSumL hp [])) rfl ?_
    rw [opMod_pos (by omega)]
    have e : ((hp.sum : Nat) : Int) % 997 = ((lfv "sum" w hp : Nat) : Int) := by
      show _ = ((hp.sum % 997 : Nat) : Int)
      omega
    rw [e]
  refine (sSeq_next ((sIf_f (S' := []) ((eq3 "sum").trans (by rw [decide_eq_false h3]))).trans rfl)).trans ?_
  have h4 : x ∈ (["least", "most"] : List Str) := by
    simp only [tmLvs, List.mem_cons, List.not_mem_nil, or_false] at hx h1 ⊢
    rcases hx with h | h | h | h | h | h
    · exact absurd (.inl h) h1
    · exact absurd h h2
    · exact absurd (.inr h) h1
    · exact absurd h h3
    · exact .inl h
    · exact .inr h
  refine sSeq_ret ((sIf_t (S' := []) ((in3 hw (by decide) (by decide)).trans (by rw [decide_eq_true h4]))).trans (sRet_ok ?_))
  have en : eTest (eOp (opEq false) (eVar 2) (eLst lNil)) [T, some (.int w), some (.lst (hp.map nt)), some (.str x), none, none] [] = .ok (decide (hp = [])) [] :=
    eTest_bl ((eOp_ok (d := .lst (hp.map nt)) (e := .lst (([] : List Nat).map nt)) (S' := []) (S2 := []) rfl (by rw [eLst_app, lNil_app, Out.bind_ok, mkLst0]; rfl) (opEq_ntsL false hp [] [])).trans (by rw [Bool.xor_false]))
  by_cases h5 : hp = []
  · rw [decide_eq_true h5] at en
    refine (eIf_t en).trans ?_
    subst h5
    simp only [List.mem_cons, List.not_mem_nil, or_false] at h4
    rcases h4 with rfl | rfl <;> rfl
  · rw [decide_eq_false h5] at en
    refine (eIf_f en).trans ?_
    simp only [List.mem_cons, List.not_mem_nil, or_false] at h4
    rcases h4 with rfl | rfl
    · refine (eIf_t ((eq3 "least").trans (by rw [decide_eq_true rfl]))).trans ?_
      exact eCall1_ok (d := .lst (hp.map nt)) (S' := []) rfl (fMinL h5 [])
    · refine (eIf_f ((eq3 "least").trans (by rw [decide_eq_false (by decide)]))).trans ?_
      exact eCall1_ok (d := .lst (hp.map nt)) (S' := []) rfl (fMaxL h5 [])
/-- no leaf: past the first four tests -/
theorem pastV {x : Str} (hx : x ∈ tmWords) (h1 : x ∉ (["word", "own"] : List Str)) (h2 : x ≠ "ties") (h3 : x ≠ "sum") (h4 : x ∉ (["least", "most"] : List Str)) {T : Option D} :
    tailV R [T, some (.int w), some (.lst (hp.map nt)), some (.str x), none, none] [] = (sSeq (sIf (eTest (eOp (opEq false) (eVar 3) (eK (.str "many")))) (sRet (eCntL (eVar 2) (lCons (eOp opIx (eVar 0) (eK (.int 1))) lNil))) sNext)
    (sSeq (sIf (eTest (eOp (opEq false) (eVar 3) (eK (.str "if")))) (sRet (mBind (lCons (eOp opIx (eVar 0) (eOp opAdd (eK (.int 2)) (eCall fInt (lCons (eOp (opEq false) (mBind (lCons (eOp opIx (eVar 0) (eK (.int 1))) (lCons (eVar 1) (lCons (eVar 2) lNil))) (callF 3 R)) (eK (.int 0))) lNil)))) (lCons (eVar 1) (lCons (eVar 2) lNil))) (callF 3 R))) sNext)
    (sSeq (sPar 4 5 (lCons (mBind (lCons (eOp opIx (eVar 0) (eK (.int 1))) (lCons (eVar 1) (lCons (eVar 2) lNil))) (callF 3 R)) (lCons (mBind (lCons (eOp opIx (eVar 0) (eK (.int 2))) (lCons (eVar 1) (lCons (eVar 2) lNil))) (callF 3 R)) lNil)))
    (sRet (mBind (lCons (eVar 3) (lCons (eVar 4) (lCons (eVar 5) lNil))) (callF 3 f__law_made)))))) [T, some (.int w), some (.lst (hp.map nt)), some (.str x), none, none] [] := by
  unfold tailV
  refine (sSeq_next ((sIf_f (S' := []) ((in3 hx (by decide) (by decide)).trans (by rw [decide_eq_false h1]))).trans rfl)).trans ?_
  refine (sSeq_next ((sIf_f (S' := []) ((eq3 "ties").trans (by rw [decide_eq_false h2]))).trans rfl)).trans ?_
  refine (sSeq_next ((sIf_f (S' := []) ((eq3 "sum").trans (by rw [decide_eq_false h3]))).trans rfl)).trans ?_
  exact sSeq_next ((sIf_f (S' := []) ((in3 hx (by decide) (by decide)).trans (by rw [decide_eq_false h4]))).trans rfl)
end
theorem value_ok {w : Nat} {hp : List Nat} (h : GH w hp) : ∀ (t : Trm), t.Wf → ∀ n : Nat, t.dep < n → F__law_value n [.pd t.enc, .int w, .lst (hp.map nt)] [] = .ok (.int (t.val w hp : Nat)) []
  | _, _, 0, hn => by omega
  | .num i, _, n + 1, _ => by
    rw [F__law_value_succ]
    refine runF_pure (S' := []) ?_
    show m__law_value (F__law_value n) [some (.int i), some (.int w), some (.lst (hp.map nt)), none, none, none] [] = _
    unfold m__law_value
    exact sSeq_ret ((sIf_t (S' := []) (by simp only [Out.bind_ok, mBind_app, mRet_app, eVar_0, eVar_1, eVar_2, eVar_3, eVar_4, eVar_5, eVar_6, eVar_7, eVar_8, eVar_9, eVar_10, eK_app, eOp_app, asB_bl, eTest_app, tru_bl, eTru_app, eChain_app, bNot_app, bAnd_app, bOr_app, eNot_app, eAnd_app, eOr_app, eIf_app, eUn_app, lNil_app, lCons_app, eTup_app, eLst_app, eLstM_app, eCall_app, eSlice_app, asI_int, eMeth_app, sNext_app, sNever_app, sBrk_app, sCont_app, sSeq_app, sSet_app, sExpr_app, sRet_app, sRetN_app, sIf_app, sAsg_app, eRg1_app, eIsI_app, opAdd_int, opSub_int, opCmpI_int, opLt_int, opEq_int, tgName_app, tgNil_app, tgCons_app, tgTup_app, clr_nil', clr_cons', ofO_some, opIx_tup0, opIx_tup1, fLen_tup, fLen_lst, fTuple_lst, startD, isTy, List.map_cons, List.map_nil, List.length_cons, List.length_nil, List.cons_append, List.nil_append, List.replicate, Nat.reduceAdd, Nat.reduceSub, List.set_cons_zero, List.set_cons_succ, reduceIte, eq_self, Bool.false_eq_true, Bool.not_true, Bool.not_false, Option.bind_some, Bool.xor_false, Bool.xor_true, decide_true, decide_false])).trans (sRet_ok rfl))
  | .leaf x, hx, n + 1, _ => by
    rw [F__law_value_succ]
    refine runF_pure (S' := []) ?_
    exact (val_open x []).trans (leafV hx)
  | .many k, hk, n + 1, _ => by
    rw [F__law_value_succ]
    refine runF_pure (S' := []) ?_
    refine (val_open "many" [.int k]).trans ((pastV (by decide) (by decide) (by decide) (by decide) (by decide)).trans ?_)
    refine sSeq_ret ((sIf_t (S' := []) ((eq3 "many").trans (by rw [decide_eq_true rfl]))).trans (sRet_ok ?_))
    unfold eCntL
    rw [mBind_app]
    show (Out.ok (D.lst (hp.map nt)) []).bind _ = _
    rw [Out.bind_ok]
    dsimp only
    rw [mBind_app, lCons_app, eOp_ok (d := .tup [.str "many", .int k]) (e := .int 1) (S' := []) (S2 := []) rfl rfl (opIx_tup1 _ _ _), Out.bind_ok, lNil_app, Out.bind_ok, Out.bind_ok]
    exact opCnt_nts hp k
  | .op x a b, ⟨hx, ha, hb⟩, n + 1, hn => by
    have hnn : 1 + max a.dep b.dep < n + 1 := hn
    have ea := fun σ S => callF_pd (n := 3) (d := .int (a.val w hp : Nat)) (value_ok h a ha n (by omega)) rfl rfl rfl rfl σ S
    have eb := fun σ S => callF_pd (n := 3) (d := .int (b.val w hp : Nat)) (value_ok h b hb n (by omega)) rfl rfl rfl rfl σ S
    have hn4 := ops_not x hx
    have hm : x ≠ ("many" : Str) := hn4.1
    have hi : x ≠ ("if" : Str) := hn4.2.1
    have hl : x ∉ tmLvs := hn4.2.2.1
    rw [F__law_value_succ]
    refine runF_pure (S' := []) ?_
    refine (val_open x [a.enc, b.enc]).trans ((pastV (ops_words x hx) (fun q => hl ?_) (fun q => hl (by rw [q]; decide)) (fun q => hl (by rw [q]; decide)) (fun q => hl ?_)).trans ?_)
    · simp only [List.mem_cons, List.not_mem_nil, or_false] at q
      rcases q with rfl | rfl <;> decide
    · simp only [List.mem_cons, List.not_mem_nil, or_false] at q
      rcases q with rfl | rfl <;> decide
    refine (sSeq_next ((sIf_f (S' := []) ((eq3 "many").trans (by rw [decide_eq_false hm]))).trans rfl)).trans ?_
    refine (sSeq_next ((sIf_f (S' := []) ((eq3 "if").trans (by rw [decide_eq_false hi]))).trans rfl)).trans ?_
    refine (sSeq_next (σ' := [some (.tup [.str x, a.enc, b.enc]), some (.int w), some (.lst (hp.map nt)), some (.str x), some (.int (a.val w hp : Nat)), some (.int (b.val w hp : Nat))]) (S' := []) ?_).trans ?_
    · unfold sPar
      rw [lCons_app, call3_ok (d := .pd a.enc) (e := .int w) (e3 := .lst (hp.map nt)) (S' := []) (S2 := []) (S3 := []) (eOp_ok (d := .tup [.str x, a.enc, b.enc]) (e := .int 1) (S' := []) (S2 := []) rfl rfl (opIx_tup1 _ _ _)) rfl rfl (ea _ _), Out.bind_ok, lCons_app,
        call3_ok (d := .pd b.enc) (e := .int w) (e3 := .lst (hp.map nt)) (S' := []) (S2 := []) (S3 := []) (eOp_ok (d := .tup [.str x, a.enc, b.enc]) (e := .int 2) (S' := []) (S2 := []) rfl rfl (opIx_tupN (i := 2) rfl)) rfl rfl (eb _ _)]
      rfl
    refine sRet_ok (call3_ok (d := .str x) (e := .int (a.val w hp : Nat)) (e3 := .int (b.val w hp : Nat)) (S' := []) (S2 := []) (S3 := []) rfl rfl rfl ?_)
    exact callF_pd (n := 3) (d := .int (opv x (a.val w hp) (b.val w hp) : Nat)) (made_ok (val_lt h a ha) (val_lt h b hb) hx) rfl rfl rfl rfl _ _
  | .cond c a b, ⟨hc, ha, hb⟩, n + 1, hn => by
    have hnn : 1 + max c.dep (max a.dep b.dep) < n + 1 := hn
    have ec := fun σ S => callF_pd (n := 3) (d := .int (c.val w hp : Nat)) (value_ok h c hc n (by omega)) rfl rfl rfl rfl σ S
    have ea := fun σ S => callF_pd (n := 3) (d := .int (a.val w hp : Nat)) (value_ok h a ha n (by omega)) rfl rfl rfl rfl σ S
    have eb := fun σ S => callF_pd (n := 3) (d := .int (b.val w hp : Nat)) (value_ok h b hb n (by omega)) rfl rfl rfl rfl σ S
    rw [F__law_value_succ]
    refine runF_pure (S' := []) ?_
    refine (val_open "if" [c.enc, a.enc, b.enc]).trans ((pastV (by decide) (by decide) (by decide) (by decide) (by decide)).trans ?_)
    refine (sSeq_next ((sIf_f (S' := []) ((eq3 "many").trans (by rw [decide_eq_false (by decide)]))).trans rfl)).trans ?_
    refine sSeq_ret ((sIf_t (S' := []) ((eq3 "if").trans (by rw [decide_eq_true rfl]))).trans ?_)
    have hi : ∀ (k : Bool) S, fInt [.bl k] S = .ok (.int (if k then 1 else 0)) S := fun _ _ => rfl
    have e1 : eCall fInt (lCons (eOp (opEq false) (mBind (lCons (eOp opIx (eVar 0) (eK (.int 1))) (lCons (eVar 1) (lCons (eVar 2) lNil))) (callF 3 (F__law_value n))) (eK (.int 0))) lNil) [some (.tup [.str "if", c.enc, a.enc, b.enc]), some (.int w), some (.lst (hp.map nt)), some (.str "if"), none, none] [] = .ok (.int (if decide (((c.val w hp : Nat) : Int) = 0) = true then 1 else 0)) [] := by
      refine eCall1_ok (d := .bl (decide (((c.val w hp : Nat) : Int) = 0))) (S' := []) ?_ (hi _ _)
      exact (eOp_ok (d := .int (c.val w hp : Nat)) (e := .int 0) (S' := []) (S2 := []) (call3_ok (d := .pd c.enc) (e := .int w) (e3 := .lst (hp.map nt)) (S' := []) (S2 := []) (S3 := []) (eOp_ok (d := .tup [.str "if", c.enc, a.enc, b.enc]) (e := .int 1) (S' := []) (S2 := []) rfl rfl (opIx_tup1 _ _ _)) rfl rfl (ec _ _)) rfl (opEq_int false _ _ _)).trans (by rw [Bool.xor_false])
    by_cases h0 : c.val w hp = 0
    · have hv : Trm.val w hp (.cond c a b) = b.val w hp := by
        show (if Trm.val w hp c = 0 then Trm.val w hp b else Trm.val w hp a) = _
        rw [if_pos h0]
      rw [if_pos (decide_eq_true (show ((c.val w hp : Nat) : Int) = 0 by omega))] at e1
      rw [hv]
      refine sRet_ok (call3_ok (d := .pd b.enc) (e := .int w) (e3 := .lst (hp.map nt)) (S' := []) (S2 := []) (S3 := []) ?_ rfl rfl (eb _ _))
      exact eOp_ok (d := .tup [.str "if", c.enc, a.enc, b.enc]) (e := .int 3) (S' := []) (S2 := []) rfl (eOp_ok (d := .int 2) (e := .int 1) (S' := []) (S2 := []) rfl e1 (opAdd_int _ _ _)) (opIx_tupN (i := 3) rfl)
    · have hv : Trm.val w hp (.cond c a b) = a.val w hp := by
        show (if Trm.val w hp c = 0 then Trm.val w hp b else Trm.val w hp a) = _
        rw [if_neg h0]
      rw [if_neg (by rw [decide_eq_true_eq]; omega)] at e1
      rw [hv]
      refine sRet_ok (call3_ok (d := .pd a.enc) (e := .int w) (e3 := .lst (hp.map nt)) (S' := []) (S2 := []) (S3 := []) ?_ rfl rfl (ea _ _))
      exact eOp_ok (d := .tup [.str "if", c.enc, a.enc, b.enc]) (e := .int 2) (S' := []) (S2 := []) rfl (eOp_ok (d := .int 2) (e := .int 0) (S' := []) (S2 := []) rfl e1 (opAdd_int _ _ _)) (opIx_tupN (i := 2) rfl)
end K04
end
section
namespace K04
open PySem PySem.Spec PyProof.Rows L2 DL
/-! ### terms of thirty-nine, forty terms -/
def lvsK (kind : Nat) : List Str := if kind = 0 then ["word", "ties"] else ["own", "ties", "sum", "least", "most", "many"]
def lsK (kind : Nat) : List Str := if kind = 0 then fLvs else nLvs
theorem leaves_ok (kind : Nat) : f__law_leaves [.int kind] [] = .ok (.lst ((lvsK kind).map lf)) [] := by
  have ec : eTest (eOp (opEq false) (eVar 0) (eK (.int 0))) [some (.int kind)] [] = .ok (decide ((kind : Int) = 0)) [] :=
    eTest_bl ((eOp_ok (d := .int kind) (e := .int 0) (S' := []) (S2 := []) rfl rfl (opEq_int false _ _ _)).trans (by rw [Bool.xor_false]))
  refine runF_pure (S' := []) ?_
  show m__law_leaves [some (.int kind)] [] = _
  unfold m__law_leaves lvsK
  by_cases h : kind = 0
  · rw [decide_eq_true (by omega)] at ec
    rw [if_pos h]
    refine sSeq_ret ((sIf_t ec).trans (sRet_ok ?_))
    simp only [eLst_app, eTup_app, lCons_app, lNil_app, eK_app, Out.bind_ok, mkTup1, mkLst2]; rfl
  · rw [decide_eq_false (by omega)] at ec
    rw [if_neg h]
    refine (sSeq_next ((sIf_f ec).trans rfl)).trans (sRet_ok ?_)
    simp only [eLst_app, eTup_app, lCons_app, lNil_app, eK_app, Out.bind_ok, mkTup1, mkLst6]; rfl
theorem lvsK_ok (kind : Nat) : ∀ x ∈ lvsK kind, (x = "many" ∧ ("sum" : Str) ∈ lsK kind) ∨ (x ∈ tmLvs ∧ x ∈ lsK kind) := by
  unfold lvsK lsK
  by_cases h : kind = 0
  · rw [if_pos h, if_pos h]; decide
  · rw [if_neg h, if_neg h]; decide
def ops9 : List Str := ["plus", "minus", "times", "over", "rest", "less", "same", "low", "high"]
theorem ops9_ok : ∀ x ∈ ops9, x ∈ tmOps := by decide
abbrev SzOk (xs ls : List Str) (n m d : Nat) : Prop := ∀ ob, IsPool ob → ∃ (t : Trm) (ob' : Ob), Drawn ls d m t ∧ IsPool ob' ∧ F__law_sized n [.ref 0, .lst (xs.map lf), .int m] [ob] = .ok (.pd t.enc) [ob']
section
variable {xs ls : List Str} (hx : ∀ x ∈ xs, (x = "many" ∧ ("sum" : Str) ∈ ls) ∨ (x ∈ tmLvs ∧ x ∈ ls)) (hne : 1 ≤ xs.length) (hl : xs.length ≤ 100)
theorem sz_lt (m : Nat) (S : Sto) : eTest (eOp opLt (eVar 2) (eK (.int 3))) [some (.ref 0), some (.lst (xs.map lf)), some (.int m), none, none, none, none] S = .ok (decide ((m : Int) < 3)) S :=
  eTest_bl (eOp_ok (d := .int m) (e := .int 3) (S' := S) (S2 := S) rfl rfl (opLt_int _ _ _))
include hx hne hl in
theorem sz_leaf (n : Nat) : SzOk xs ls (n + 1) 1 0 := by
  intro ob hp
  obtain ⟨y, ob2, hy, hp2, e2⟩ := take_call hp (many := xs.length) hne (by omega) (S := [ob]) (p := 0) rfl [some (.ref 0), some (.lst (xs.map lf)), some (.int (1 : Nat)), none, none, none, none]
  rw [List.set_cons_zero] at e2
  have hm : xs[y] ∈ xs := List.getElem_mem hy
  have ei : (xs.map lf)[y]? = some (lf xs[y]) := by rw [List.getElem?_map, List.getElem?_eq_getElem hy]; rfl
  generalize xs[y] = x at hm ei
  have e3 : sSet 3 (eOp opIx (eVar 1) (mBind (lCons (eVar 0) (lCons (eCall fLen (lCons (eVar 1) lNil)) lNil)) (callF 2 f__law_take))) [some (.ref 0), some (.lst (xs.map lf)), some (.int (1 : Nat)), none, none, none, none] [ob] = .ok (.next [some (.ref 0), some (.lst (xs.map lf)), some (.int (1 : Nat)), some (.pd (lf x)), none, none, none]) [ob2] := by
    refine sSet_ok (eOp_ok (d := .lst (xs.map lf)) (e := .int y) (S' := [ob]) (S2 := [ob2]) rfl (call2_ok (d := .ref 0) (e := .int xs.length) (S' := [ob]) (S2 := [ob]) rfl ?_ e2) (opIx_lstN ei))
    refine eCall1_ok (d := .lst (xs.map lf)) rfl ?_
    rw [fLen_lst, List.length_map]
  have hw : x ∈ tmWords := by
    rcases hx x hm with ⟨rfl, _⟩ | ⟨h, _⟩
    · decide
    · exact lvs_words x h
  have e4 : eTest (eOp (opEq false) (eVar 3) (eTup (lCons (eK (.str "many")) lNil))) [some (.ref 0), some (.lst (xs.map lf)), some (.int (1 : Nat)), some (.pd (lf x)), none, none, none] [ob2] = .ok (decide (x = "many")) [ob2] :=
    eTest_bl (eOp_ok (d := .pd (lf x)) (e := .pd (lf "many")) (S' := [ob2]) (S2 := [ob2]) rfl (eTup1_ok (x := .str "many") rfl) (eq_lf hw _))
  have c := sz_lt (xs := xs) 1 [ob]
  rw [decide_eq_true (by omega)] at c
  by_cases hmm : x = "many"
  · rw [decide_eq_true hmm] at e4
    obtain ⟨z, ob3, hz, hp3, e5⟩ := draw hp2 (i := 0) (σ := [some (.ref 0), some (.lst (xs.map lf)), some (.int (1 : Nat)), some (.pd (lf x)), none, none, none]) (fun _ => rfl) (k := 997) (n := 997) rfl (by omega) (by omega)
    have hs : ("sum" : Str) ∈ ls := by
      rcases hx x hm with ⟨_, h⟩ | ⟨h, _⟩
      · exact h
      · exact absurd hmm (lvs_not x h).1
    refine ⟨.many z, ob3, ⟨show z < 997 by omega, decide_eq_true hs, Nat.zero_le _, Nat.le_refl _⟩, hp3, ?_⟩
    rw [F__law_sized_succ]
    refine runF_ref (r := []) ?_ hp3.pd
    show m__law_sized (F__law_sized n) [some (.ref 0), some (.lst (xs.map lf)), some (.int (1 : Nat)), none, none, none, none] [ob] = _
    unfold m__law_sized
    refine sSeq_ret ((sIf_t c).trans ((sSeq_next e3).trans (sRet_ok ?_)))
    rw [eIf_app, e4]
    exact eTup2_ok (x0 := .str "many") (x1 := .int z) (S1 := [ob2]) rfl e5
  · rw [decide_eq_false hmm] at e4
    have hxx : x ∈ tmLvs ∧ x ∈ ls := by
      rcases hx x hm with ⟨h, _⟩ | h
      · exact absurd h hmm
      · exact h
    refine ⟨.leaf x, ob2, ⟨hxx.1, decide_eq_true hxx.2, Nat.zero_le _, Nat.le_refl _⟩, hp2, ?_⟩
    rw [F__law_sized_succ]
    refine runF_ref (r := []) ?_ hp2.pd
    show m__law_sized (F__law_sized n) [some (.ref 0), some (.lst (xs.map lf)), some (.int (1 : Nat)), none, none, none, none] [ob] = _
    unfold m__law_sized
    refine sSeq_ret ((sIf_t c).trans ((sSeq_next e3).trans (sRet_ok ?_)))
    rw [eIf_app, e4]
    rfl
theorem sz_op {ob : Ob} (hp : IsPool ob) (m : Nat) : ∃ (x : Str) (ob' : Ob), x ∈ tmOps ∧ IsPool ob' ∧ sSet 4 (eOp opIx (eLst (lCons (eK (.str "plus")) (lCons (eK (.str "minus")) (lCons (eK (.str "times")) (lCons (eK (.str "over")) (lCons (eK (.str "rest")) (lCons (eK (.str "less")) (lCons (eK (.str "same")) (lCons (eK (.str "low")) (lCons (eK (.str "high")) lNil)))))))))) (mBind (lCons (eVar 0) (lCons (eK (.int 9)) lNil)) (callF 2 f__law_take))) [some (.ref 0), some (.lst (xs.map lf)), some (.int m), none, none, none, none] [ob] = .ok (.next [some (.ref 0), some (.lst (xs.map lf)), some (.int m), none, some (.str x), none, none]) [ob'] := by
  obtain ⟨z, ob1, hz, hp1, e1⟩ := draw hp (i := 0) (σ := [some (.ref 0), some (.lst (xs.map lf)), some (.int m), none, none, none, none]) (fun _ => rfl) (k := 9) (n := 9) rfl (by omega) (by omega)
  have hz2 : z < ops9.length := hz
  have ex : (ops9.map PyData.str)[z]? = some (.str ops9[z]) := by rw [List.getElem?_map, List.getElem?_eq_getElem hz2]; rfl
  refine ⟨ops9[z], ob1, ops9_ok _ (List.getElem_mem hz2), hp1, ?_⟩
  refine sSet_ok (eOp_ok (d := .lst (ops9.map .str)) (e := .int z) (S' := [ob]) (S2 := [ob1]) ?_ e1 (opIx_lstN ex))
  simp only [eLst_app, lCons_app, lNil_app, eK_app, Out.bind_ok, mkLst9]; rfl
theorem sz_odd (m : Nat) (x : Str) (S : Sto) : eTest (eOp (opEq false) (eOp opMod (eVar 2) (eK (.int 2))) (eK (.int 1))) [some (.ref 0), some (.lst (xs.map lf)), some (.int m), none, some (.str x), none, none] S = .ok (decide ((m : Int) % 2 = 1)) S :=
  eTest_bl ((eOp_ok (d := .int ((m : Int) % 2)) (e := .int 1) (S' := S) (S2 := S) (eOp_ok (d := .int m) (e := .int 2) (S' := S) (S2 := S) rfl rfl (opMod_pos (by omega) _)) rfl (opEq_int false _ _ _)).trans (by rw [Bool.xor_false]))
theorem sz_one {m one : Nat} {k : Int} (hk : 0 < k) (hk2 : k < 1000) (ho : Builtin.bitOr (((m : Int) - 1) / k) 1 = (one : Int)) (x : Str) (S : Sto) :
    sSet 5 (eOp opOr (eOp opDiv (eOp opSub (eVar 2) (eK (.int 1))) (eK (.int k))) (eK (.int 1))) [some (.ref 0), some (.lst (xs.map lf)), some (.int m), none, some (.str x), none, none] S = .ok (.next [some (.ref 0), some (.lst (xs.map lf)), some (.int m), none, some (.str x), some (.int one), none]) S := by
  refine sSet_ok (eOp_ok (d := .int (((m : Int) - 1) / k)) (e := .int 1) (S' := S) (S2 := S) (eOp_ok (d := .int ((m : Int) - 1)) (e := .int k) (S' := S) (S2 := S) (eOp_ok (d := .int m) (e := .int 1) (S' := S) (S2 := S) rfl rfl (opSub_int _ _ _)) rfl (opDiv_pos hk (by omega) _)) rfl ?_)
  show Out.ok (D.int (Builtin.bitOr (((m : Int) - 1) / k) 1)) S = _
  rw [ho]
theorem sz_call {n one d : Nat} (h : SzOk xs ls n one d) {ob : Ob} (hp : IsPool ob) {i : DM D} {σ : Sl} (h0 : ∀ S, eVar 0 σ S = .ok (.ref 0) S) (h1 : ∀ S, eVar 1 σ S = .ok (.lst (xs.map lf)) S) (h2 : ∀ S, i σ S = .ok (.int one) S) :
    ∃ (t : Trm) (ob' : Ob), Drawn ls d one t ∧ IsPool ob' ∧ mBind (lCons (eVar 0) (lCons (eVar 1) (lCons i lNil))) (callF 3 (F__law_sized n)) σ [ob] = .ok (.pd t.enc) [ob'] := by
  obtain ⟨t, ob', ht, hp', e⟩ := h ob hp
  refine ⟨t, ob', ht, hp', call3_ok (d := .ref 0) (e := .lst (xs.map lf)) (e3 := .int one) (h0 _) (h1 _) (h2 _) ?_⟩
  exact callF_ref (n := 3) (f := F__law_sized n) (ds := [.ref 0, .lst (xs.map lf), .int one]) (d := .pd t.enc) (S := [ob]) (p := 0) rfl hp.pd rfl e rfl rfl hp'.pd σ
theorem sz_step {n m one other d1 d2 d : Nat} (h1 : SzOk xs ls n one d1) (h2 : SzOk xs ls n other d2) (hd1 : d1 < d) (hd2 : d2 < d) (h3 : 3 ≤ m) (hm : m % 2 = 1) (ho : Builtin.bitOr (((m : Int) - 1) / 2) 1 = (one : Int)) (hs : one + other + 1 = m) : SzOk xs ls (n + 1) m d := by
  intro ob hp
  have c := sz_lt (xs := xs) m [ob]
  rw [decide_eq_false (by omega)] at c
  obtain ⟨x, ob1, hxo, hp1, e4⟩ := sz_op (xs := xs) hp m
  have c2 := sz_odd (xs := xs) m x [ob1]
  rw [decide_eq_true (by omega)] at c2
  have e5 := sz_one (xs := xs) (k := 2) (by omega) (by omega) ho x [ob1]
  obtain ⟨a, ob2, ha, hp2, ea⟩ := sz_call h1 hp1 (i := eVar 5) (σ := [some (.ref 0), some (.lst (xs.map lf)), some (.int m), none, some (.str x), some (.int one), none]) (fun _ => rfl) (fun _ => rfl) (fun _ => rfl)
  obtain ⟨b, ob3, hb, hp3, eb⟩ := sz_call h2 hp2 (i := eOp opSub (eOp opSub (eVar 2) (eK (.int 1))) (eVar 5)) (σ := [some (.ref 0), some (.lst (xs.map lf)), some (.int m), none, some (.str x), some (.int one), none]) (fun _ => rfl) (fun _ => rfl) (fun S => by
    have e : ((m : Int) - 1 - one) = other := by omega
    rw [← e]
    exact eOp_ok (d := .int ((m : Int) - 1)) (e := .int one) (S' := S) (S2 := S) (eOp_ok (d := .int m) (e := .int 1) (S' := S) (S2 := S) rfl rfl (opSub_int _ _ _)) rfl (opSub_int _ _ _))
  refine ⟨.op x a b, ob3, ⟨⟨hxo, ha.wf, hb.wf⟩, by simp only [Trm.inL, ha.inl, hb.inl]; rfl, ?_, ?_⟩, hp3, ?_⟩
  · have := ha.dep; have := hb.dep
    simp only [Trm.dep]; omega
  · have := ha.sz; have := hb.sz
    simp only [Trm.sz]; omega
  rw [F__law_sized_succ]
  refine runF_ref (r := []) ?_ hp3.pd
  show m__law_sized (F__law_sized n) [some (.ref 0), some (.lst (xs.map lf)), some (.int m), none, none, none, none] [ob] = _
  unfold m__law_sized
  refine (sSeq_next ((sIf_f c).trans rfl)).trans ?_
  refine (sSeq_next e4).trans ?_
  refine sSeq_ret ((sIf_t c2).trans ((sSeq_next e5).trans (sRet_ok ?_)))
  exact eTup3_ok (x0 := .str x) (S1 := [ob1]) rfl ea eb
theorem sz_if {n m one d1 d : Nat} (h1 : SzOk xs ls n one d1) (hd1 : d1 < d) (h3 : 3 ≤ m) (hm : m % 2 = 0) (ho : Builtin.bitOr (((m : Int) - 1) / 3) 1 = (one : Int)) (hs : one + one + one + 1 = m) : SzOk xs ls (n + 1) m d := by
  intro ob hp
  have c := sz_lt (xs := xs) m [ob]
  rw [decide_eq_false (by omega)] at c
  obtain ⟨x, ob1, hxo, hp1, e4⟩ := sz_op (xs := xs) hp m
  have c2 := sz_odd (xs := xs) m x [ob1]
  rw [decide_eq_false (by omega)] at c2
  have e5 := sz_one (xs := xs) (k := 3) (by omega) (by omega) ho x [ob1]
  obtain ⟨q, ob2, hq, hp2, eq⟩ := sz_call h1 hp1 (i := eOp opSub (eOp opSub (eVar 2) (eK (.int 1))) (eOp opMul2 (eK (.int 2)) (eVar 5))) (σ := [some (.ref 0), some (.lst (xs.map lf)), some (.int m), none, some (.str x), some (.int one), none]) (fun _ => rfl) (fun _ => rfl) (fun S => by
    have e : ((m : Int) - 1 - 2 * one) = one := by omega
    have h := eOp_ok (op := opSub) (m := eOp opSub (eVar 2) (eK (.int 1))) (m2 := eOp opMul2 (eK (.int 2)) (eVar 5)) (σ := [some (.ref 0), some (.lst (xs.map lf)), some (.int m), none, some (.str x), some (.int one), none]) (S := S) (d := .int ((m : Int) - 1)) (e := .int (2 * one)) (S' := S) (S2 := S) (eOp_ok (d := .int m) (e := .int 1) (S' := S) (S2 := S) rfl rfl (opSub_int _ _ _)) (eOp_ok (d := .int 2) (e := .int one) (S' := S) (S2 := S) rfl rfl (opMul_l (by decide) _)) (opSub_int _ _ _)
    rw [e] at h
    exact h)
  obtain ⟨a, ob3, ha, hp3, ea⟩ := sz_call h1 hp2 (i := eVar 5) (σ := [some (.ref 0), some (.lst (xs.map lf)), some (.int m), none, some (.str x), some (.int one), some (.pd q.enc)]) (fun _ => rfl) (fun _ => rfl) (fun _ => rfl)
  obtain ⟨b, ob4, hb, hp4, eb⟩ := sz_call h1 hp3 (i := eVar 5) (σ := [some (.ref 0), some (.lst (xs.map lf)), some (.int m), none, some (.str x), some (.int one), some (.pd q.enc)]) (fun _ => rfl) (fun _ => rfl) (fun _ => rfl)
  refine ⟨.cond q a b, ob4, ⟨⟨hq.wf, ha.wf, hb.wf⟩, by simp only [Trm.inL, hq.inl, ha.inl, hb.inl]; rfl, ?_, ?_⟩, hp4, ?_⟩
  · have := ha.dep; have := hb.dep; have := hq.dep
    simp only [Trm.dep]; omega
  · have := ha.sz; have := hb.sz; have := hq.sz
    simp only [Trm.sz]; omega
  rw [F__law_sized_succ]
  refine runF_ref (r := []) ?_ hp4.pd
  show m__law_sized (F__law_sized n) [some (.ref 0), some (.lst (xs.map lf)), some (.int m), none, none, none, none] [ob] = _
  unfold m__law_sized
  refine (sSeq_next ((sIf_f c).trans rfl)).trans ?_
  refine (sSeq_next e4).trans ?_
  refine (sSeq_next ((sIf_f c2).trans rfl)).trans ?_
  refine (sSeq_next e5).trans ?_
  refine (sSeq_next (sSet_ok eq)).trans (sRet_ok ?_)
  exact eTup4_ok (x0 := .str "if") (x1 := q.enc) (S1 := [ob2]) (S2 := [ob2]) rfl rfl ea eb
include hx hne hl
theorem sized_ok {m : Nat} (hm : m = 39 ∨ m = 40) : SzOk xs ls 8 m 5 := by
  have s1 : ∀ n, SzOk xs ls (n + 1) 1 0 := fun n => sz_leaf hx hne hl n
  have s3 : ∀ n, SzOk xs ls (n + 2) 3 1 := fun n => sz_step (s1 n) (s1 n) (by omega) (by omega) (by omega) rfl (by decide) rfl
  have s5 : ∀ n, SzOk xs ls (n + 3) 5 2 := fun n => sz_step (s3 n) (s1 (n + 1)) (by omega) (by omega) (by omega) rfl (by decide) rfl
  have s7 : ∀ n, SzOk xs ls (n + 3) 7 2 := fun n => sz_step (s3 n) (s3 n) (by omega) (by omega) (by omega) rfl (by decide) rfl
  have s9 : ∀ n, SzOk xs ls (n + 4) 9 3 := fun n => sz_step (s5 n) (s3 (n + 1)) (by omega) (by omega) (by omega) rfl (by decide) rfl
  have s13 : ∀ n, SzOk xs ls (n + 4) 13 3 := fun n => sz_step (s7 n) (s5 n) (by omega) (by omega) (by omega) rfl (by decide) rfl
  have s19 : ∀ n, SzOk xs ls (n + 5) 19 4 := fun n => sz_step (s9 n) (s9 n) (by omega) (by omega) (by omega) rfl (by decide) rfl
  rcases hm with rfl | rfl
  · exact sz_step (s19 2) (s19 2) (by omega) (by omega) (by omega) rfl (by decide) rfl
  · exact sz_if (s13 3) (by omega) (by omega) rfl (by decide) rfl
end
theorem sized_call (kind : Nat) {m : Nat} (hm : m = 39 ∨ m = 40) {ob : Ob} (hp : IsPool ob) : ∃ (t : Trm) (ob' : Ob), GT (lsK kind) t ∧ IsPool ob' ∧ f__law_sized [.ref 0, .lst ((lvsK kind).map lf), .int m] [ob] = .ok (.pd t.enc) [ob'] := by
  have l : 1 ≤ (lvsK kind).length ∧ (lvsK kind).length ≤ 100 := by
    unfold lvsK
    split <;> exact ⟨by decide, by decide⟩
  obtain ⟨t, ob', ht, hp', e⟩ := sized_ok (lvsK_ok kind) l.1 l.2 hm ob hp
  exact ⟨t, ob', ⟨ht.wf, ht.dep, ht.inl, by have := ht.sz; omega⟩, hp', e⟩
end K04
end
section
namespace K04
open PySem PySem.Spec PyProof.Rows L2 DL
/-! ### the heap in another order -/
abbrev ntD (n : Nat) : D := .int (n : Int)
theorem pop_ok {S : Sto} {xs : List D} {x : Nat} {y : D} (h : S[1]? = some (.lst xs)) (hx : x < xs.length) (hl : xs.length ≤ 1000) (hy : xs[x]? = some y) : mPopAt (.ref 1) [.int x] S = .ok y (S.set 1 (.lst (xs.eraseIdx x))) := by
  have e1 : lstAt S (.ref 1) = some (1, xs) := by
    unfold lstAt
    simp only [h]
  have e2 : seqIndex? (x : Int) xs.length = some x := by
    have h0 : ¬ (x : Int) < 0 := by omega
    simp only [seqIndex?, if_neg h0]
    rw [if_pos (by simp only [Bool.and_eq_true, decide_eq_true_eq]; omega)]
    rfl
  unfold mPopAt
  simp only [e1, e2, hy]
  rw [if_pos (by omega)]
theorem map_erase {α β : Type} (f : α → β) : ∀ (l : List α) (x : Nat), (l.map f).eraseIdx x = (l.eraseIdx x).map f
  | [], _ => rfl
  | a :: r, 0 => rfl
  | a :: r, x + 1 => by
    show f a :: (r.map f).eraseIdx x = f a :: (r.eraseIdx x).map f
    rw [map_erase f r x]
theorem erase_perm : ∀ (l : List Nat) (x : Nat) (h : x < l.length), (l[x] :: l.eraseIdx x).Perm l
  | a :: r, 0, _ => List.Perm.refl _
  | a :: r, x + 1, h => by
    have h' : x < r.length := by rw [List.length_cons] at h; omega
    show (r[x] :: a :: r.eraseIdx x).Perm (a :: r)
    exact (List.Perm.swap a r[x] _).trans ((erase_perm r x h').cons a)
section
variable {hp : List Nat}
abbrev mxS (hp : List Nat) (last : Option D) : Sl := [some (.ref 0), some (.lst (hp.map nt)), some (.ref 1), last]
abbrev mxO (ob : Ob) (left : List Nat) : Sto := [ob, .lst (left.map ntD)]
theorem mx_len (left : List Nat) (ob : Ob) (o : Option D) : eCall fLen (lCons (eVar 2) lNil) (mxS hp o) (mxO ob left) = .ok (.int (left.length : Nat)) (mxO ob left) := by
  refine eCall1_ok (d := .ref 1) rfl ?_
  show Out.ok (D.int ((left.map ntD).length : Nat)) _ = _
  rw [List.length_map]
theorem mx_turn (left : List Nat) (ob : Ob) (j : Nat) (hp1 : IsPool ob) (h1 : 1 ≤ left.length) (h2 : left.length ≤ 11) : ∃ (x : Nat) (y : Nat) (ob' : Ob), left[x]? = some y ∧ IsPool ob' ∧
      q_law_mixed_e1 (mxS hp (some (.int j))) (mxO ob left) = .ok (ntD y) (mxO ob' (left.eraseIdx x)) := by
  obtain ⟨x, ob', hx, hp', e⟩ := take_call hp1 (many := left.length) h1 (by omega) (S := mxO ob left) (p := 0) rfl (mxS hp (some (.int j)))
  refine ⟨x, left[x], ob', List.getElem?_eq_getElem hx, hp', ?_⟩
  have e2 : mBind (lCons (eVar 0) (lCons (eCall fLen (lCons (eVar 2) lNil)) lNil)) (callF 2 f__law_take) (mxS hp (some (.int j))) (mxO ob left) = .ok (.int x) (mxO ob' left) :=
    call2_ok (d := .ref 0) (e := .int left.length) (S' := mxO ob left) (S2 := mxO ob left) rfl (mx_len left ob _) e
  have ty : tyD (mxO ob left) (.ref 1) = some "list" := rfl
  have e3 : mPopAt (.ref 1) [.int x] (mxO ob' left) = .ok (ntD left[x]) (mxO ob' (left.eraseIdx x)) := by
    refine (pop_ok (xs := left.map ntD) (y := ntD left[x]) rfl (by rw [List.length_map]; exact hx) (by rw [List.length_map]; omega) (by rw [List.getElem?_map, List.getElem?_eq_getElem hx]; rfl)).trans ?_
    rw [map_erase]
    rfl
  unfold q_law_mixed_e1
  rw [eMeth_app, show eVar 2 (mxS hp (some (.int j))) (mxO ob left) = .ok (.ref 1) (mxO ob left) from rfl, Out.bind_ok, if_pos ty, lCons_app, e2, Out.bind_ok, lNil_app, Out.bind_ok, Out.bind_ok, e3]
theorem mx_go : ∀ (l left acc : List Nat) (ob : Ob), hp.length ≤ 11 → IsPool ob → l.length = left.length → acc.length + left.length = hp.length → (acc ++ left).Perm hp → ∃ (hq : List Nat) (ob' : Ob), hq.Perm hp ∧ IsPool ob' ∧
      lcGo .no (tgName 3) (mRet true) q_law_mixed_e1 (l.map fun (j : Nat) => D.int j) (acc.map ntD) (mxS hp none) (mxO ob left) = .ok (hq.map ntD) (mxO ob' []) := by
  intro l
  induction l with
  | nil =>
    intro left acc ob hl h0 h1 h2 h3
    have : left = [] := List.eq_nil_of_length_eq_zero h1.symm
    subst this
    rw [List.append_nil] at h3
    refine ⟨acc, ob, h3, h0, ?_⟩
    rw [List.map_nil]
    unfold lcGo
    rw [if_pos (by exact trivial)]
  | cons j r ih =>
    intro left acc ob hl h0 h1 h2 h3
    rw [List.length_cons] at h1
    obtain ⟨x, y, ob1, hy, hp1, e⟩ := mx_turn (hp := hp) left ob j h0 (by omega) (by omega)
    have hx : x < left.length := (List.getElem?_eq_some_iff.mp hy).1
    have hyx : left[x] = y := (List.getElem?_eq_some_iff.mp hy).2
    have hlen : (left.eraseIdx x).length + 1 = left.length := by
      rw [List.length_eraseIdx, if_pos hx]; omega
    have pm : (y :: left.eraseIdx x).Perm left := by
      rw [← hyx]
      exact erase_perm left x hx
    obtain ⟨hq, ob', q1, q2, q3⟩ := ih (left.eraseIdx x) (acc ++ [y]) ob1 hl hp1 (by omega) (by rw [List.length_append, List.length_singleton]; omega) (by
      rw [List.append_assoc]
      exact (List.Perm.append_left acc pm).trans h3)
    refine ⟨hq, ob', q1, q2, ?_⟩
    rw [List.map_cons]
    unfold lcGo
    rw [if_pos (by exact trivial)]
    have e' : q_law_mixed_e1 ((mxS hp none).set 3 (some (.int j))) (mxO ob left) = .ok (ntD y) (mxO ob1 (left.eraseIdx x)) := e
    simp only [tgName_app, mRet_app, Out.bindN_ok, if_true, e']
    rw [if_pos (by rw [List.length_map, sizeLine_eq]; omega)]
    rw [List.map_append] at q3
    exact q3
theorem mx_body (hl : hp.length ≤ 11) {ob : Ob} (hpl : IsPool ob) : ∃ (hq : List Nat) (ob' : Ob), hq.Perm hp ∧ IsPool ob' ∧ m__law_mixed [some (.ref 0), some (.lst (hp.map nt)), none, none] [ob] = .ok (.ret (.xt (hq.map nt))) (mxO ob' []) := by
  obtain ⟨hq, ob', q1, q2, q3⟩ := mx_go (hp := hp) (List.range hp.length) hp [] ob hl hpl (by rw [List.length_range]) (by simp) (by simp)
  refine ⟨hq, ob', q1, q2, ?_⟩
  have hr : iRange1 (lCons (eCall fLen (lCons (eVar 2) lNil)) lNil) (mxS hp none) (mxO ob hp) = .ok ⟨(List.range hp.length).map fun (j : Nat) => D.int j, .no⟩ (mxO ob hp) :=
    iRange1_nat (n := hp.length) (by rw [lCons_app, mx_len, Out.bind_ok]; rfl) (by omega)
  have e1 : eLc [3] (iRange1 (lCons (eCall fLen (lCons (eVar 2) lNil)) lNil)) (tgName 3) (mRet true) q_law_mixed_e1 (mxS hp none) (mxO ob hp) = .ok (.lst (hq.map nt)) (mxO ob' []) := by
    unfold eLc
    rw [mBind_app]
    unfold lcAll
    rw [hr, Out.bind_ok]
    rw [List.map_nil] at q3
    dsimp only
    rw [show clr [3] (mxS hp none) = mxS hp none from rfl, q3, Out.bind_ok]
    have : hq.map ntD = (hq.map nt).map D.pd := by rw [List.map_map]; rfl
    unfold mkF
    rw [this, pdL_map]
  have e2 : fTupleX [.lst (hq.map nt)] (mxO ob' []) = .ok (.xt (hq.map nt)) (mxO ob' []) := by
    unfold fTupleX
    have : asL (mxO ob' []) (.lst (hq.map nt)) = some ((hq.map nt).map .pd) := rfl
    simp only [this, pdL_map]
  have e0 : fListM [.lst (hp.map nt)] [ob] = .ok (.ref 1) (mxO ob hp) := by
    show Out.ok (D.ref 1) ([ob] ++ [.lst ((hp.map nt).map .pd)]) = _
    rw [List.map_map]
    rfl
  unfold m__law_mixed
  exact (sSeq_next (σ' := mxS hp none) (S' := mxO ob hp) (sSet_ok (d := .ref 1) (eCall1_ok (d := .lst (hp.map nt)) rfl e0))).trans (sRet_ok (eCall1_ok e1 e2))
end
theorem runF_xt {n : Nat} {m : DM Fl} {ds : List D} {ob ob' : Ob} {x : List PyData} {r : Sto} (h : m (startD n ds) [ob] = .ok (.ret (.xt x)) (ob' :: r)) (hp : pdOb ob' = true) : runF n m ds [ob] = .ok (.xt x) [ob'] := by
  unfold runF
  rw [h]
  show fin 1 (.xt x) (ob' :: r) = _
  unfold fin
  simp [hp, frz]
theorem mixed_ok {hp : List Nat} (hl : hp.length ≤ 11) {ob : Ob} (hpl : IsPool ob) : ∃ (hq : List Nat) (ob' : Ob), hq.Perm hp ∧ IsPool ob' ∧ f__law_mixed [.ref 0, .lst (hp.map nt)] [ob] = .ok (.xt (hq.map nt)) [ob'] := by
  obtain ⟨hq, ob', q1, q2, q3⟩ := mx_body hl hpl
  exact ⟨hq, ob', q1, q2, runF_xt (r := [.lst []]) q3 q2.pd⟩
/-! ### what a term comes to hangs on the heap's order in nothing -/
theorem foldl_perm {f : Nat → Nat → Nat} (hc : ∀ a b c, f (f a b) c = f (f a c) b) {l l' : List Nat} (h : l.Perm l') : ∀ n, l.foldl f n = l'.foldl f n := by
  induction h with
  | nil => intro n; rfl
  | cons x _ ih => intro n; exact ih _
  | swap x y l => intro n; show l.foldl f (f (f n y) x) = l.foldl f (f (f n x) y); rw [hc]
  | trans _ _ h1 h2 => intro n; rw [h1, h2]
theorem lstV_perm {f : Nat → Nat → Nat} (hm : ∀ a b, f a b = f b a) (hc : ∀ a b c, f (f a b) c = f (f a c) b) {l l' : List Nat} (h : l.Perm l') : lstV f l = lstV f l' := by
  induction h with
  | nil => rfl
  | cons x h _ => exact foldl_perm hc h x
  | swap x y l => show l.foldl f (f y x) = l.foldl f (f x y); rw [hm]
  | trans _ _ h1 h2 => exact h1.trans h2
theorem lfv_perm {x : Str} {w : Nat} {l l' : List Nat} (h : l.Perm l') : lfv x w l = lfv x w l' := by
  unfold lfv
  rw [h.length_eq, h.sum_nat, lstV_perm (f := min) (fun a b => by omega) (fun a b c => by omega) h, lstV_perm (f := max) (fun a b => by omega) (fun a b c => by omega) h]
theorem val_perm {w : Nat} {l l' : List Nat} (h : l.Perm l') : ∀ t : Trm, t.val w l = t.val w l'
  | .num i => rfl
  | .leaf x => lfv_perm h
  | .many k => h.count_eq k
  | .op x a b => by
    show opv x (Trm.val w l a) (Trm.val w l b) = opv x (Trm.val w l' a) (Trm.val w l' b)
    rw [val_perm h a, val_perm h b]
  | .cond c a b => by
    show (if Trm.val w l c = 0 then Trm.val w l b else Trm.val w l a) = (if Trm.val w l' c = 0 then Trm.val w l' b else Trm.val w l' a)
    rw [val_perm h c, val_perm h a, val_perm h b]
theorem gh_perm {w : Nat} {l l' : List Nat} (h : l'.Perm l) (g : GH w l) : GH w l' := ⟨g.wl, fun x hx => g.all x (h.mem_iff.mp hx), by rw [h.length_eq]; exact g.len⟩
theorem looks_first : ∀ t : Trm, t.inL fLvs = true → t.looks = false
  | .num i, _ => rfl
  | .leaf x, h => by
    have h : decide (x ∈ fLvs) = true := h
    have h := of_decide_eq_true h
    simp only [fLvs, List.mem_cons, List.not_mem_nil, or_false] at h
    rcases h with rfl | rfl <;> rfl
  | .many k, h => by
    have h : decide (("sum" : Str) ∈ fLvs) = true := h
    exact absurd (of_decide_eq_true h) (by decide)
  | .op x a b, h => by
    have h : (Trm.inL fLvs a && Trm.inL fLvs b) = true := h
    rw [Bool.and_eq_true] at h
    show (a.looks || b.looks) = false
    rw [looks_first a h.1, looks_first b h.2]
    rfl
  | .cond c a b, h => by
    have h : (Trm.inL fLvs c && (Trm.inL fLvs a && Trm.inL fLvs b)) = true := h
    rw [Bool.and_eq_true, Bool.and_eq_true] at h
    show (c.looks || (a.looks || b.looks)) = false
    rw [looks_first c h.1, looks_first a h.2.1, looks_first b h.2.2]
    rfl
theorem val_zeros {t : Trm} (h : GT fLvs t) {w : Nat} (hp : List Nat) : t.val w (List.replicate hp.length 0) = t.val w hp :=
  val_len (by rw [List.length_replicate]) t h.wf (looks_first t h.inl)
end K04
end
section
namespace K04
open PySem PySem.Spec PyProof.Rows L2 DL
theorem eCall2_ok {f : LF} {m m2 : DM D} {d e d' : D} {σ : Sl} {S S' S2 S3 : Sto} (h : m σ S = .ok d S') (h2 : m2 σ S' = .ok e S2) (hf : f [d, e] S2 = .ok d' S3) : eCall f (lCons m (lCons m2 lNil)) σ S = .ok d' S3 := by
  rw [eCall_app, lCons_app, h, Out.bind_ok, lCons_app, h2]; exact hf
theorem fMin_nat (a b : Nat) (S : Sto) : fMin2 [.int a, .int b] S = .ok (.int (min a b : Nat)) S := by
  show Out.ok (D.int (if (b : Int) < a then b else a)) S = _
  congr 3
  split <;> omega
theorem fMax_nat (a b : Nat) (S : Sto) : fMax2 [.int a, .int b] S = .ok (.int (max a b : Nat)) S := by
  show Out.ok (D.int (if (b : Int) > a then b else a)) S = _
  congr 3
  split <;> omega
theorem flatW {α : Type} (f : α → PyData) (c d : Nat) : ∀ l : List α, (∀ a ∈ l, smallW (f a) = true ∧ wtW (f a) ≤ c ∧ (f a).depth ≤ d) → smallWAll (l.map f) = true ∧ wtWAll (l.map f) ≤ (c + 2) * l.length ∧ PyData.depthAll (l.map f) ≤ d
  | [], _ => ⟨rfl, Nat.le_refl _, Nat.zero_le _⟩
  | a :: l, h => by
    obtain ⟨h1, h2, h3⟩ := flatW f c d l fun b hb => h b (List.mem_cons_of_mem _ hb)
    obtain ⟨a1, a2, a3⟩ := h a List.mem_cons_self
    rw [List.map_cons, List.length_cons]
    refine ⟨by rw [smallWAll, a1, h1]; rfl, ?_, by rw [PyData.depthAll]; omega⟩
    rw [wtWAll, Nat.mul_succ]
    omega
theorem nt_small {i : Nat} (h : i ≤ 1000) : smallW (nt i) = true ∧ wtW (nt i) ≤ 12 ∧ (nt i).depth ≤ 0 := by
  refine ⟨?_, Nat.le_refl _, Nat.le_refl _⟩
  unfold smallW
  simp only [Bool.and_eq_true, decide_eq_true_eq]
  omega
theorem row_small {l : List Nat} (h : ∀ i ∈ l, i ≤ 1000) (hl : l.length ≤ 100) : smallW (.tuple (l.map nt)) = true ∧ wtW (.tuple (l.map nt)) ≤ 1403 ∧ (PyData.tuple (l.map nt)).depth ≤ 1 := by
  obtain ⟨h1, h2, h3⟩ := flatW nt 12 0 l fun i hi => nt_small (h i hi)
  refine ⟨by rw [smallW]; exact h1, by rw [wtW]; omega, by simp only [PyData.depth]; omega⟩
theorem lc_drawG {S0 : Sto} {p : Nat} {σ : Sl} {vs : List Nat} {w : DM Wk} {i : Nat} {te : DM D} {ob ob1 : Ob} (hp1 : IsPool ob1) {ds : List D} (hn : ds.length ≤ 1000) {Q : PyData → Prop}
    (hw : w σ (S0.set p ob) = .ok ⟨ds, .no⟩ (S0.set p ob1))
    (hte : ∀ (ob' : Ob) (d : D), IsPool ob' → ∃ (x : PyData) (ob'' : Ob), Q x ∧ IsPool ob'' ∧ te ((clr vs σ).set i (some d)) (S0.set p ob') = .ok (.pd x) (S0.set p ob'')) :
    ∃ (xs : List PyData) (ob' : Ob), xs.length = ds.length ∧ (∀ x ∈ xs, Q x) ∧ IsPool ob' ∧ eLc vs w (tgName i) (mRet true) te σ (S0.set p ob) = .ok (.lst xs) (S0.set p ob') := by
  have go : ∀ (l : List D) (acc : List PyData) (ob1 : Ob), IsPool ob1 → acc.length + l.length = ds.length → (∀ x ∈ acc, Q x) → ∃ (xs : List PyData) (ob' : Ob), xs.length = ds.length ∧ (∀ x ∈ xs, Q x) ∧ IsPool ob' ∧
      lcGo .no (tgName i) (mRet true) te l (acc.map .pd) (clr vs σ) (S0.set p ob1) = .ok (xs.map .pd) (S0.set p ob') := by
    intro l
    induction l with
    | nil =>
      intro acc ob1 hp1 hl hq
      refine ⟨acc, ob1, by simpa using hl, hq, hp1, ?_⟩
      unfold lcGo
      rw [if_pos (by exact trivial)]
    | cons d r ih =>
      intro acc ob1 hp1 hl hq
      obtain ⟨x, ob2, hx, hp2, e⟩ := hte ob1 d hp1
      rw [List.length_cons] at hl
      obtain ⟨xs, ob', h1, h2, h3, h4⟩ := ih (acc ++ [x]) ob2 hp2 (by rw [List.length_append, List.length_singleton]; omega) (fun y hy => by
        rcases List.mem_append.mp hy with hy | hy
        · exact hq y hy
        · rw [show y = x by simpa using hy]; exact hx)
      refine ⟨xs, ob', h1, h2, h3, ?_⟩
      unfold lcGo
      rw [if_pos (by exact trivial)]
      simp only [tgName_app, mRet_app, Out.bindN_ok, if_true, e]
      rw [if_pos (by rw [List.length_map, sizeLine_eq]; omega)]
      rw [List.map_append] at h4
      exact h4
  obtain ⟨xs, ob', h1, h2, h3, h4⟩ := go ds [] ob1 hp1 (by simp) (fun x hx => (nomatch hx))
  refine ⟨xs, ob', h1, h2, h3, ?_⟩
  unfold eLc
  rw [mBind_app]
  unfold lcAll
  rw [hw, Out.bind_ok]
  rw [List.map_nil] at h4
  dsimp only
  rw [h4, Out.bind_ok]
  unfold mkF
  rw [pdL_map]
theorem iRange1_of {ml : DM (List D)} {σ : Sl} {S S1 : Sto} {n : Nat} (h : ml σ S = .ok [.int n] S1) (hn : n ≤ 1000000) : iRange1 ml σ S = .ok ⟨(List.range n).map fun (i : Nat) => D.int i, .no⟩ S1 := by
  have e' := iRange1_nat (ml := fun _ S => .ok [.int n] S) (σ := σ) (S := S1) (n := n) rfl hn
  unfold iRange1 at e' ⊢
  rw [mBind_app] at e' ⊢
  rw [h]
  exact e'
theorem par_ok {i j : Nat} {m m2 : DM D} {d e : D} {σ : Sl} {S S1 S2 : Sto} (h : m σ S = .ok d S1) (h2 : m2 σ S1 = .ok e S2) : sPar i j (lCons m (lCons m2 lNil)) σ S = .ok (.next ((σ.set i (some d)).set j (some e))) S2 := by
  unfold sPar
  rw [lCons_app, h, Out.bind_ok, lCons_app, h2]
  rfl
theorem reprOk_nt {x : Nat} (h : x < 100000) : reprOk (nt x) = true := by
  refine reprOk_small ?_ ?_ ?_
  · unfold small
    rw [Bool.and_eq_true, decide_eq_true_eq, decide_eq_true_eq]
    omega
  · show 0 ≤ 60
    omega
  · show 12 ≤ 1000000
    omega
/-! ### the ops, all nine -/
theorem shown_ok0 : ∀ n : Fin 997, PyData.strOk (PyData.int ((n.val : Nat) : Int)).shown = true := by decide +kernel
theorem shown_ok {n : Nat} (h : n < 997) : PyData.strOk (nt n).shown = true := shown_ok0 ⟨n, h⟩
theorem eq_lay {x : PyData} (c : PyData.canLay0 x = true) (hk : okEq x = true) (hn : ∀ i, x ≠ .str i) (S : Sto) : opEq true (.pd x) (.pd x) S = .ok (.bl false) S := by
  rw [opEq_ex true hk hk _ hn, SeqAt.eqv_refl _ c]
  rfl
theorem eq_two {s : Str} (h : PyData.strOk s = true) (S : Sto) : opEq true (.lst [.str s, .str s]) (.lst [.str s, .str s]) S = .ok (.bl false) S := by
  have c : PyData.canLay0 (.list [.str s, .str s]) = true := by simp only [PyData.canLay0, PyData.canLayAll0, h]; rfl
  refine eq_lay c ?_ (fun i h => by cases h) S
  unfold okEq SeqAt.shaped
  rw [c]
  rfl
def names9 : List Str := ["high", "less", "low", "minus", "over", "plus", "rest", "same", "times"]
theorem names9_ok : ∀ x ∈ names9, x ∈ tmOps := by decide
theorem eq_names (S : Sto) : opEq true (.lst (names9.map .str)) (.lst (names9.map .str)) S = .ok (.bl false) S :=
  eq_lay (x := .list (names9.map .str)) (by decide +kernel) (by decide +kernel) (fun i h => by cases h) S
abbrev opS (a2 a3 a4 a5 : Option D) : Sl := [some (.ref 0), some (.lst (names9.map .str)), a2, a3, a4, a5]
theorem ops_turn {a b : Nat} (ha : a < 997) (hb : b < 997) {x : Str} (hx : x ∈ tmOps) (T : Option D) (S : Sto) :
    q_law_ops_right_b1 (opS T (some (.int a)) (some (.int b)) (some (.str x))) S = .ok (.next (opS T (some (.int a)) (some (.int b)) (some (.str x)))) S := by
  unfold q_law_ops_right_b1
  refine (sIf_f (S' := S) (neRepr (d := nt (opv x a b)) (S1 := S) (reprOk_nt (by have := opv_lt (x := x) ha hb; omega)) (tab_call ha hb hx rfl rfl rfl) ?_)).trans rfl
  exact call3_ok (d := .str x) (e := .int a) (e3 := .int b) (S' := S) (S2 := S) (S3 := S) rfl rfl rfl (callF_pd (n := 3) (d := .int (opv x a b : Nat)) (made_ok ha hb hx) rfl rfl rfl rfl _ _)
theorem ops_names {a b : Nat} (ha : a < 997) (hb : b < 997) (T : Option D) (S : Sto) (o : Option D) :
    Sat (sFor [5] (iSeq (eVar 1)) (tgName 5) q_law_ops_right_b1 (opS T (some (.int a)) (some (.int b)) o) S) fun f S' => f = .next (opS T (some (.int a)) (some (.int b)) none) ∧ S' = S := by
  have es : iSeq (eVar 1) (opS T (some (.int a)) (some (.int b)) o) S = .ok ⟨(names9.map .str).map .pd, .no⟩ S := iSeq_lst rfl
  rw [sFor_app, es, Out.bind_ok]
  have ec : clr [5] (opS T (some (.int a)) (some (.int b)) o) = opS T (some (.int a)) (some (.int b)) none := rfl
  rw [ec]
  refine forGo_sat (fun l σ S' => (∀ d ∈ l, ∃ x : Str, x ∈ tmOps ∧ d = .str x) ∧ σ = opS T (some (.int a)) (some (.int b)) none ∧ S' = S) (fun _ _ _ _ => by exact trivial) ?_ ?_ _ _ _ ⟨?_, rfl, rfl⟩
  · rintro σ S' ⟨_, rfl, rfl⟩
    exact ⟨rfl, rfl⟩
  · rintro d r σ S' ⟨hd, rfl, rfl⟩
    obtain ⟨x, hx, rfl⟩ := hd d List.mem_cons_self
    exact ⟨opS T (some (.int a)) (some (.int b)) (some (.str x)), rfl, _, _, ops_turn ha hb hx T _, fun d hd' => hd d (List.mem_cons_of_mem _ hd'), rfl, rfl⟩
  · intro d hd
    rw [List.map_map] at hd
    obtain ⟨x, hx, rfl⟩ := List.mem_map.mp hd
    exact ⟨x, names9_ok x hx, rfl⟩
theorem ops_right_ok {ob : Ob} (hp : IsPool ob) : ∃ ob', IsPool ob' ∧ f__law_ops_right [.ref 0] [ob] = .ok (.bl true) [ob'] := by
  have h : Sat (sFor [2, 3, 4, 5] (iRange1 (lCons (eK (.int 6)) lNil)) (tgName 2) q_law_ops_right_b2 (opS none none none none) [ob]) fun f S => f = .next (opS none none none none) ∧ ∃ ob', IsPool ob' ∧ S = [ob'] := by
    have ec : clr [2, 3, 4, 5] (opS none none none none) = opS none none none none := rfl
    rw [sFor_app, iRange1_nat (n := 6) rfl (by omega), Out.bind_ok, ec]
    refine forGo_range 6 (fun _ σ S => σ = opS none none none none ∧ ∃ ob', IsPool ob' ∧ S = [ob']) ?_ (fun σ S h => ⟨by rw [h.1], h.2⟩) ⟨rfl, ob, hp, rfl⟩
    rintro j σ S _ ⟨rfl, ob1, hp1, rfl⟩
    obtain ⟨a, ob2, ha, hp2, ea⟩ := any_worth_call hp1 (opS (some (.int j)) none none none)
    obtain ⟨b, ob3, hb, hp3, eb⟩ := any_worth_call hp2 (opS (some (.int j)) none none none)
    have ep : sPar 3 4 (lCons (mBind (lCons (eVar 0) lNil) (callF 1 f__law_any_worth)) (lCons (mBind (lCons (eVar 0) lNil) (callF 1 f__law_any_worth)) lNil)) (opS (some (.int j)) none none none) [ob1] = .ok (.next (opS (some (.int j)) (some (.int a)) (some (.int b)) none)) [ob3] :=
      par_ok (d := .int a) (e := .int b) (S1 := [ob2]) (call1_ok (d := .ref 0) (S' := [ob1]) rfl ea) (call1_ok (d := .ref 0) (S' := [ob2]) rfl eb)
    obtain ⟨f, S', e, rfl, rfl⟩ := ops_names ha hb (some (.int j)) [ob3] none
    have e' : q_law_ops_right_b2 (opS (some (.int j)) none none none) [ob1] = .ok (.next (opS (some (.int j)) (some (.int a)) (some (.int b)) none)) [ob3] := by
      unfold q_law_ops_right_b2
      exact (sSeq_next ep).trans e
    exact ⟨_, _, e', rfl, ob3, hp3, rfl⟩
  obtain ⟨f, S, e, rfl, ob', hp', rfl⟩ := h
  refine ⟨ob', hp', runF_ref (r := []) ?_ hp'.pd⟩
  show m__law_ops_right [some (.ref 0), none, none, none, none, none] [ob] = _
  unfold m__law_ops_right
  refine (sSeq_next (σ' := opS none none none none) (S' := [ob]) (sSet_ok (d := .lst (names9.map .str)) ?_)).trans ?_
  · simp only [eLst_app, lCons_app, lNil_app, eK_app, Out.bind_ok, mkLst9]; rfl
  refine (sSeq_next (σ' := opS none none none none) (S' := [ob]) ((sIf_f (S' := [ob]) (eTest_bl (k := false) (eOp_ok (d := .lst (names9.map .str)) (e := .lst (names9.map .str)) (S' := [ob]) (S2 := [ob]) rfl rfl (eq_names _)))).trans rfl)).trans ?_
  exact (sSeq_next e).trans rfl
end K04
end
section
namespace K04
open PySem PySem.Spec PyProof.Rows L2 DL
theorem GT.gd {kind : Nat} {t : Trm} (h : GT (lsK kind) t) : GD t := by
  refine ⟨h.wf, h.dep, ?_, h.sz⟩
  have := h.inl
  unfold lsK at this
  split at this
  · exact .inl this
  · exact .inr this
theorem repr_held {t : Trm} (ht : GD t) {w : Nat} {hp : List Nat} (h : GH w hp) : reprOk (.tuple [t.enc, nt w, .list (hp.map nt)]) = true := by
  have hw := Trm.wt_enc t
  have hs := ht.sz
  have hd := Trm.depth_enc t
  have hdd := ht.dep
  have hwl := h.wl
  obtain ⟨a1, a2, a3⟩ := nt_small (i := w) (by omega)
  obtain ⟨h1, h2, h3⟩ := flatW nt 12 0 hp fun i hi => nt_small (by have := h.all i hi; omega)
  have hl := h.len
  refine reprOk_smallW ?_ ?_ ?_
  · rw [smallW, smallWAll, smallWAll, smallWAll, smallWAll, Trm.small_enc t ht.wf, a1, smallW, h1]
    rfl
  · simp only [PyData.depth, PyData.depthAll] at a3 ⊢
    omega
  · simp only [wtW, wtWAll] at a2 ⊢
    omega
theorem tupleX_ok {hp : List Nat} {σ : Sl} {S : Sto} {m : DM D} (h : m σ S = .ok (.lst (hp.map nt)) S) : eCall fTupleX (lCons m lNil) σ S = .ok (hD true hp) S := by
  refine eCall1_ok h ?_
  unfold fTupleX
  have : asL S (.lst (hp.map nt)) = some ((hp.map nt).map .pd) := rfl
  simp only [this, pdL_map]
  rfl
theorem gh_zeros {w : Nat} {hp : List Nat} (h : GH w hp) : GH w (List.replicate hp.length 0) :=
  ⟨h.wl, fun x hx => by rw [(List.mem_replicate.mp hx).2]; omega, by rw [List.length_replicate]; exact h.len⟩
section
variable {ns : List Int} {k p : Nat} {Sx : Ob → Sto} (hS : ∀ ob, (Sx ob)[p]? = some ob) (ss : ∀ a b, (Sx a).set p b = Sx b)
include hS ss in
theorem L_call {n : Nat} {f : DF} {ds : List D} {d : D} {ob ob' : Ob} (hd : refsOf ds = [p]) (e : f (renum 0 ds) [ob] = .ok d [ob']) (hn : ds.length = n) (hnr : noRef d = true) (hp : IsPool ob) (hp' : IsPool ob') (σ : Sl) : callF n f ds σ (Sx ob) = .ok d (Sx ob') := by
  have c := callF_ref (hS ob) hp.pd hd e hn hnr hp'.pd σ
  rwa [ss] at c
include hS ss in
theorem L_draw {ob : Ob} (hp : IsPool ob) {σ : Sl} (h2 : ∀ S, eVar 2 σ S = .ok (.ref p) S) {i : Int} {n : Nat} (hk : i = n) (h1 : 1 ≤ n) (hn : n ≤ 1000000) :
    ∃ (x : Nat) (ob' : Ob), x < n ∧ IsPool ob' ∧ mBind (lCons (eVar 2) (lCons (eK (.int i)) lNil)) (callF 2 f__law_take) σ (Sx ob) = .ok (.int x) (Sx ob') := by
  obtain ⟨x, ob', hx, hp', e⟩ := take_ok hp h1 hn
  subst hk
  exact ⟨x, ob', hx, hp', call2_ok (d := .ref p) (e := .int n) (h2 _) rfl (L_call hS ss (ds := [.ref p, .int n]) (d := .int x) rfl e rfl rfl hp hp' σ)⟩
include hS ss in
theorem L_worth {ob : Ob} (hp : IsPool ob) {σ : Sl} (h2 : ∀ S, eVar 2 σ S = .ok (.ref p) S) :
    ∃ (x : Nat) (ob' : Ob), x < 997 ∧ IsPool ob' ∧ mBind (lCons (eVar 2) lNil) (callF 1 f__law_any_worth) σ (Sx ob) = .ok (.int x) (Sx ob') := by
  obtain ⟨x, ob', hx, hp', e⟩ := any_worth_ok hp
  exact ⟨x, ob', hx, hp', call1_ok (d := .ref p) (h2 _) (L_call hS ss (ds := [.ref p]) (d := .int x) rfl e rfl rfl hp hp' σ)⟩
abbrev lS (ns : List Int) (k p : Nat) (a3 a4 a5 a6 a7 a8 a9 a10 : Option D) : Sl := [some (.lst (ns.map .int)), some (.int k), some (.ref p), a3, a4, a5, a6, a7, a8, a9, a10, none, none]
include hS ss in
/-- a term: drawn, or of thirty-nine, forty terms -/
theorem L_term {ob : Ob} (hp : IsPool ob) {kind : Nat} (hk : kind < 2) (T : Option D) : ∃ (t : Trm) (ob' : Ob), GT (lsK kind) t ∧ IsPool ob' ∧ ∀ (r : DM Fl),
    (sSeq (sSet 5 (eTwo 1 f__law_any_first f__law_any_next (eVar 4) (lCons (eVar 2) lNil)))
    (sSeq (sIf (eTest (eOp (opEq false) (mBind (lCons (eVar 2) (lCons (eK (.int 3)) lNil)) (callF 2 f__law_take)) (eK (.int 0)))) (sSet 5 (mBind (lCons (eVar 2) (lCons (mBind (lCons (eVar 4) lNil) (callF 1 f__law_leaves)) (lCons (eOp opAdd (eK (.int 39)) (mBind (lCons (eVar 2) (lCons (eK (.int 2)) lNil)) (callF 2 f__law_take))) lNil))) (callF 3 f__law_sized))) sNext) r)) (lS ns k p T (some (.int kind)) none none none none none none) (Sx ob)
    = r (lS ns k p T (some (.int kind)) (some (.pd t.enc)) none none none none none) (Sx ob') := by
  have et : ∃ (t : Trm) (ob' : Ob), GT (lsK kind) t ∧ IsPool ob' ∧ eTwo 1 f__law_any_first f__law_any_next (eVar 4) (lCons (eVar 2) lNil) (lS ns k p T (some (.int kind)) none none none none none none) (Sx ob) = .ok (.pd t.enc) (Sx ob') := by
    rcases (show kind = 0 ∨ kind = 1 by omega) with rfl | rfl
    · obtain ⟨t, ob', ht, hp', e⟩ := any_first_ok hp
      refine ⟨t, ob', ht, hp', ?_⟩
      exact call1_ok (d := .ref p) (S' := Sx ob) (σ := lS ns k p T (some (.int (0 : Nat))) none none none none none none) (m := eVar 2) rfl (L_call hS ss (ds := [.ref p]) (d := .pd t.enc) rfl e rfl rfl hp hp' _)
    · obtain ⟨t, ob', ht, hp', e⟩ := any_next_ok hp
      refine ⟨t, ob', ht, hp', ?_⟩
      exact call1_ok (d := .ref p) (S' := Sx ob) (σ := lS ns k p T (some (.int (1 : Nat))) none none none none none none) (m := eVar 2) rfl (L_call hS ss (ds := [.ref p]) (d := .pd t.enc) rfl e rfl rfl hp hp' _)
  obtain ⟨t, ob1, ht, hp1, e1⟩ := et
  obtain ⟨x, ob2, hx, hp2, e2⟩ := L_draw hS ss hp1 (σ := lS ns k p T (some (.int kind)) (some (.pd t.enc)) none none none none none) (fun _ => rfl) (i := 3) (n := 3) rfl (by omega) (by omega)
  have ec : eTest (eOp (opEq false) (mBind (lCons (eVar 2) (lCons (eK (.int 3)) lNil)) (callF 2 f__law_take)) (eK (.int 0))) (lS ns k p T (some (.int kind)) (some (.pd t.enc)) none none none none none) (Sx ob1) = .ok (decide ((x : Int) = 0)) (Sx ob2) :=
    eTest_bl ((eOp_ok (d := .int x) (e := .int 0) (S' := Sx ob2) (S2 := Sx ob2) e2 rfl (opEq_int false _ _ _)).trans (by rw [Bool.xor_false]))
  by_cases h0 : (x : Int) = 0
  · rw [decide_eq_true h0] at ec
    obtain ⟨y, ob3, hy, hp3, e3⟩ := L_draw hS ss hp2 (σ := lS ns k p T (some (.int kind)) (some (.pd t.enc)) none none none none none) (fun _ => rfl) (i := 2) (n := 2) rfl (by omega) (by omega)
    obtain ⟨t2, ob4, ht2, hp4, e4⟩ := sized_call kind (m := 39 + y) (by omega) hp3
    refine ⟨t2, ob4, ht2, hp4, fun r => ?_⟩
    refine (sSeq_next (sSet_ok e1)).trans ?_
    refine (sSeq_next (σ' := lS ns k p T (some (.int kind)) (some (.pd t2.enc)) none none none none none) (S' := Sx ob4) ((sIf_t ec).trans (sSet_ok ?_))).trans rfl
    refine call3_ok (d := .ref p) (e := .lst ((lvsK kind).map lf)) (e3 := .int (39 + y : Nat)) (S' := Sx ob2) (S2 := Sx ob2) (S3 := Sx ob3) rfl ?_ ?_ ?_
    · exact call1_ok (d := .int kind) rfl (callF_pd (n := 1) (d := .lst ((lvsK kind).map lf)) (leaves_ok kind) rfl rfl rfl rfl _ _)
    · rw [Int.natCast_add]
      exact eOp_ok (d := .int 39) (e := .int y) (S' := Sx ob2) (S2 := Sx ob3) rfl e3 (opAdd_int _ _ _)
    · exact L_call hS ss (ds := [.ref p, .lst ((lvsK kind).map lf), .int (39 + y : Nat)]) (d := .pd t2.enc) rfl e4 rfl rfl hp3 hp4 _
  · rw [decide_eq_false h0] at ec
    refine ⟨t, ob2, ht, hp2, fun r => ?_⟩
    refine (sSeq_next (sSet_ok e1)).trans ?_
    exact (sSeq_next (σ' := lS ns k p T (some (.int kind)) (some (.pd t.enc)) none none none none none) (S' := Sx ob2) ((sIf_f ec).trans rfl)).trans rfl
include hS ss in
/-- a worth, a heap -/
theorem L_heap {ob : Ob} (hp : IsPool ob) (T kind t : Option D) : ∃ (w : Nat) (hh : List Nat) (ob' : Ob), GH w hh ∧ IsPool ob' ∧
    sPar 6 7 (lCons (mBind (lCons (eVar 2) lNil) (callF 1 f__law_any_worth)) (lCons (eLc [11] (iRange1 (lCons (mBind (lCons (eVar 2) (lCons (eK (.int 12)) lNil)) (callF 2 f__law_take)) lNil)) (tgName 11) (mRet true) qlaw_e2) lNil)) (lS ns k p T kind t none none none none none) (Sx ob)
      = .ok (.next (lS ns k p T kind t (some (.int w)) (some (.lst (hh.map nt))) none none none)) (Sx ob') := by
  obtain ⟨w, ob1, hw, hp1, e1⟩ := L_worth hS ss hp (σ := lS ns k p T kind t none none none none none) (fun _ => rfl)
  obtain ⟨n, ob2, hn, hp2, e2⟩ := L_draw hS ss hp1 (σ := lS ns k p T kind t none none none none none) (fun _ => rfl) (i := 12) (n := 12) rfl (by omega) (by omega)
  have sx : ∀ b, (Sx ob1).set p b = Sx b := ss ob1
  have lc := lc_drawG (S0 := Sx ob1) (p := p) (σ := lS ns k p T kind t none none none none none) (vs := [11]) (w := iRange1 (lCons (mBind (lCons (eVar 2) (lCons (eK (.int 12)) lNil)) (callF 2 f__law_take)) lNil)) (i := 11) (te := qlaw_e2) (ob := ob1) (ob1 := ob2) hp2 (ds := (List.range n).map fun (i : Nat) => D.int i) (by rw [List.length_map, List.length_range]; omega) (Q := fun x => ∃ i : Nat, i < 997 ∧ x = nt i)
    (by rw [sx, sx]; exact iRange1_of (by rw [lCons_app, e2]; rfl) (by omega)) (fun ob' d hpp => by
      obtain ⟨i, ob4, hi, hp4, e4⟩ := L_worth hS ss hpp (σ := [some (.lst (ns.map .int)), some (.int k), some (.ref p), T, kind, t, none, none, none, none, none, some d, none]) (fun _ => rfl)
      refine ⟨nt i, ob4, ⟨i, hi, rfl⟩, hp4, ?_⟩
      rw [sx, sx]
      exact e4)
  obtain ⟨xs, ob3, hx1, hx2, hp3, e3⟩ := lc
  rw [sx, sx] at e3
  obtain ⟨hh, rfl, hh2⟩ := list_of nt (fun i => i < 997) xs hx2
  rw [List.length_map, List.length_map, List.length_range] at hx1
  exact ⟨w, hh, ob3, ⟨hw, hh2, by omega⟩, hp3, par_ok (d := .int w) (e := .lst (hh.map nt)) (S1 := Sx ob1) e1 e3⟩
include hS ss in
theorem L_told {ob : Ob} (hp : IsPool ob) {t : Trm} (ht : GD t) {w : Nat} {hh : List Nat} (h : GH w hh) (T kind a8 a9 : Option D) : ∃ ob', IsPool ob' ∧
    eLst (lCons (mBind (lCons (eVar 5) (lCons (eVar 6) (lCons (eCall fTupleX (lCons (eVar 7) lNil)) lNil))) (callF 3 f_comes_to)) (lCons (mBind (lCons (eVar 5) (lCons (eVar 6) (lCons (mBind (lCons (eVar 2) (lCons (eVar 7) lNil)) (callF 2 f__law_mixed)) lNil))) (callF 3 f_comes_to)) lNil)) (lS ns k p T kind (some (.pd t.enc)) (some (.int w)) (some (.lst (hh.map nt))) a8 a9 none) (Sx ob)
      = .ok (.lst [nt (t.val w hh), nt (t.val w hh)]) (Sx ob') := by
  obtain ⟨hq, ob', pm, hp', e⟩ := mixed_ok h.len hp
  refine ⟨ob', hp', ?_⟩
  have c := L_call hS ss (n := 2) (f := f__law_mixed) (ds := [.ref p, .lst (hh.map nt)]) (d := .xt (hq.map nt)) rfl e rfl rfl hp hp' (lS ns k p T kind (some (.pd t.enc)) (some (.int w)) (some (.lst (hh.map nt))) a8 a9 none)
  have e2 := comes_to_call ht (gh_perm pm h) (k := true) (.inl rfl) (m := eVar 5) (m2 := eVar 6) (m3 := mBind (lCons (eVar 2) (lCons (eVar 7) lNil)) (callF 2 f__law_mixed)) (σ := lS ns k p T kind (some (.pd t.enc)) (some (.int w)) (some (.lst (hh.map nt))) a8 a9 none) (S := Sx ob) (S1 := Sx ob) (S2 := Sx ob) (S3 := Sx ob') rfl rfl (call2_ok (d := .ref p) (e := .lst (hh.map nt)) (S' := Sx ob) (S2 := Sx ob) rfl rfl c)
  rw [val_perm pm t] at e2
  exact eLst2_ok (S1 := Sx ob) (x0 := nt (t.val w hh)) (x1 := nt (t.val w hh)) (comes_to_call ht h (k := true) (.inl rfl) (m := eVar 5) (m2 := eVar 6) (S1 := Sx ob) (S2 := Sx ob) rfl rfl (tupleX_ok rfl)) e2
include hS ss in
theorem L_turn {ob : Ob} (hp : IsPool ob) (j : Nat) : Sat (qlaw_b4 (lS ns k p (some (.int j)) none none none none none none none) (Sx ob)) fun f S => match f with
    | .next σ2 => clr [3, 4, 5, 6, 7, 8, 9, 10] σ2 = lS ns k p none none none none none none none none ∧ ∃ ob', IsPool ob' ∧ S = Sx ob'
    | _ => False := by
  obtain ⟨kind, ob1, hk, hp1, e1⟩ := L_draw hS ss hp (σ := lS ns k p (some (.int j)) none none none none none none none) (fun _ => rfl) (i := 2) (n := 2) rfl (by omega) (by omega)
  obtain ⟨t, ob2, ht, hp2, e2⟩ := L_term (ns := ns) (k := k) hS ss hp1 hk (some (.int j))
  obtain ⟨w, hh, ob3, gh, hp3, e3⟩ := L_heap (ns := ns) (k := k) hS ss hp2 (some (.int j)) (some (.int kind)) (some (.pd t.enc))
  have gd := ht.gd
  have hv := val_lt gh t ht.wf
  have rv : reprOk (nt (t.val w hh)) = true := reprOk_nt (by omega)
  have rh := repr_held gd gh
  generalize hsv : (nt (t.val w hh)).shown = sv
  have hok : PyData.strOk sv = true := by rw [← hsv]; exact shown_ok hv
  generalize hsh : (PyData.tuple [t.enc, nt w, .list (hh.map nt)]).shown = sh
  obtain ⟨ob4, hp4, e4⟩ := L_told (ns := ns) (k := k) hS ss hp3 gd gh (some (.int j)) (some (.int kind)) (some (.str sv)) (some (.str sh))
  have cv : callF 3 f__law_value [.pd t.enc, .int w, .lst (hh.map nt)] (lS ns k p (some (.int j)) (some (.int kind)) (some (.pd t.enc)) (some (.int w)) (some (.lst (hh.map nt))) none none none) (Sx ob3) = .ok (.int (t.val w hh : Nat)) (Sx ob3) :=
    callF_pd (n := 3) (f := f__law_value) (ds := [.pd t.enc, .int w, .lst (hh.map nt)]) (d := .int (t.val w hh : Nat)) (value_ok gh t ht.wf 8 (by have := ht.dep; omega)) rfl rfl rfl rfl _ _
  have fv : ∀ S, fRepr [.pd (nt (t.val w hh))] S = .ok (.str sv) S := fun S => by rw [fRepr_pd rv, hsv]
  have fh : ∀ S, fRepr [.tup [t.enc, nt w, .list (hh.map nt)]] S = .ok (.str sh) S := fun S => by rw [fRepr_pd rh, hsh]
  have tup : ∀ {σ : Sl} {S : Sto}, eVar 5 σ S = .ok (.pd t.enc) S → eVar 6 σ S = .ok (.int w) S → eVar 7 σ S = .ok (.lst (hh.map nt)) S → eCall fRepr (lCons (eTup (lCons (eVar 5) (lCons (eVar 6) (lCons (eVar 7) lNil)))) lNil) σ S = .ok (.str sh) S := fun {σ S} h5 h6 h7 =>
    eCall1_ok (eTup3_ok (x0 := t.enc) (x1 := nt w) (x2 := .list (hh.map nt)) h5 h6 h7) (fh _)
  have es : eLc [12] (iSeq (eVar 10)) (tgName 12) (mRet true) qlaw_e3 (lS ns k p (some (.int j)) (some (.int kind)) (some (.pd t.enc)) (some (.int w)) (some (.lst (hh.map nt))) (some (.str sv)) (some (.str sh)) (some (.lst [nt (t.val w hh), nt (t.val w hh)]))) (Sx ob4) = .ok (.lst (([t.val w hh, t.val w hh] : List Nat).map fun _ => .str sv)) (Sx ob4) :=
    eLc_all (gu := .no) [t.val w hh, t.val w hh] (fun v => .pd (nt v)) (fun _ => .str sv) (iSeq_lst (xs := [nt (t.val w hh), nt (t.val w hh)]) rfl) (by exact trivial) (fun v hv => ⟨[some (.lst (ns.map .int)), some (.int k), some (.ref p), some (.int j), some (.int kind), some (.pd t.enc), some (.int w), some (.lst (hh.map nt)), some (.str sv), some (.str sh), some (.lst [nt (t.val w hh), nt (t.val w hh)]), none, some (.pd (nt v))], rfl, by
      have : v = t.val w hh := by simpa using hv
      subst this
      unfold qlaw_e3
      exact eCall1_ok (d := .pd (nt (t.val w hh))) rfl (fv _)⟩) (le_size (by simp))
  refine ⟨.next (lS ns k p (some (.int j)) (some (.int kind)) (some (.pd t.enc)) (some (.int w)) (some (.lst (hh.map nt))) (some (.str sv)) (some (.str sh)) (some (.lst [nt (t.val w hh), nt (t.val w hh)]))), Sx ob4, ?_, ?_, ob4, hp4, rfl⟩
  · unfold qlaw_b4
    refine (sSeq_next (sSet_ok e1)).trans ?_
    refine (e2 _).trans ?_
    refine (sSeq_next e3).trans ?_
    refine (sSeq_next (σ' := lS ns k p (some (.int j)) (some (.int kind)) (some (.pd t.enc)) (some (.int w)) (some (.lst (hh.map nt))) (some (.str sv)) none none) (S' := Sx ob3) (sSet_ok (eCall1_ok (call3_ok (d := .pd t.enc) (e := .int w) (e3 := .lst (hh.map nt)) (S' := Sx ob3) (S2 := Sx ob3) (S3 := Sx ob3) rfl rfl rfl cv) (fv _)))).trans ?_
    refine (sSeq_next (σ' := lS ns k p (some (.int j)) (some (.int kind)) (some (.pd t.enc)) (some (.int w)) (some (.lst (hh.map nt))) (some (.str sv)) (some (.str sh)) none) (S' := Sx ob3) (sSet_ok (tup rfl rfl rfl))).trans ?_
    refine (sSeq_next (σ' := lS ns k p (some (.int j)) (some (.int kind)) (some (.pd t.enc)) (some (.int w)) (some (.lst (hh.map nt))) (some (.str sv)) (some (.str sh)) (some (.lst [nt (t.val w hh), nt (t.val w hh)]))) (S' := Sx ob4) (sSet_ok e4)).trans ?_
    refine (sSeq_next ((sIf_f (S' := Sx ob4) ((bOr_f (S' := Sx ob4) (eTest_bl (k := false) (eOp_ok (d := .lst [.str sv, .str sv]) (e := .lst [.str sv, .str sv]) (S' := Sx ob4) (S2 := Sx ob4) es (eLst2_ok (x0 := .str sv) (x1 := .str sv) (S1 := Sx ob4) rfl rfl) (eq_two hok _)))).trans
      (eTest_bl (k := false) (eOp_ok (d := .str sh) (e := .str sh) (S' := Sx ob4) (S2 := Sx ob4) (tup rfl rfl rfl) rfl (neStr _ _))))).trans rfl)).trans ?_
    have ek : eTest (eOp (opEq false) (eVar 4) (eK (.int 0))) (lS ns k p (some (.int j)) (some (.int kind)) (some (.pd t.enc)) (some (.int w)) (some (.lst (hh.map nt))) (some (.str sv)) (some (.str sh)) (some (.lst [nt (t.val w hh), nt (t.val w hh)]))) (Sx ob4) = .ok (decide ((kind : Int) = 0)) (Sx ob4) :=
      eTest_bl ((eOp_ok (d := .int kind) (e := .int 0) (S' := Sx ob4) (S2 := Sx ob4) rfl rfl (opEq_int false _ _ _)).trans (by rw [Bool.xor_false]))
    refine (sIf_f (S' := Sx ob4) ?_).trans rfl
    rw [bAnd_app, ek, Out.bind_ok]
    by_cases h0 : kind = 0
    · subst h0
      rw [decide_eq_true (by omega), if_pos rfl]
      have ez := comes_to_call gd (gh_zeros gh) (k := false) (.inr ht.inl) (m := eVar 5) (m2 := eVar 6) (m3 := eOp opMul2 (eTup (lCons (eK (.int 0)) lNil)) (eCall fLen (lCons (eVar 7) lNil))) (σ := lS ns k p (some (.int j)) (some (.int (0 : Nat))) (some (.pd t.enc)) (some (.int w)) (some (.lst (hh.map nt))) (some (.str sv)) (some (.str sh)) (some (.lst [nt (t.val w hh), nt (t.val w hh)]))) (S := Sx ob4) (S1 := Sx ob4) (S2 := Sx ob4) (S3 := Sx ob4) rfl rfl (by
        refine eOp_ok (d := .tup [nt 0]) (e := .int hh.length) (S' := Sx ob4) (S2 := Sx ob4) (eTup1_ok (x := nt 0) rfl) (eCall1_ok (d := .lst (hh.map nt)) rfl (by rw [fLen_lst, List.length_map])) ?_
        rw [opMul_tupK _ (by have := gh.len; omega)]
        show _ = Out.ok (D.tup ((List.replicate hh.length 0).map nt)) _
        rw [List.map_replicate])
      rw [val_zeros ht hh] at ez
      exact eTest_bl (k := false) (eOp_ok (d := .str sv) (e := .str sv) (S' := Sx ob4) (S2 := Sx ob4) (eCall1_ok ez (fv _)) rfl (neStr _ _))
    · rw [decide_eq_false (by omega)]
      rfl
  · simp only [clr_cons', clr_nil', List.set_cons_zero, List.set_cons_succ]
end
/-! ### the law -/
noncomputable abbrev lw0 (ns : List Int) : Sl := [some (.lst (ns.map .int)), none, none, none, none, none, none, none, none, none, none, none, none]
theorem body_ok (ns : List Int) (k : Nat) (S : Sto) : Sat (qlaw_b5 [some (.lst (ns.map .int)), some (.int k), none, none, none, none, none, none, none, none, none, none, none] S) fun f _ => match f with
    | .next σ2 => clr [1, 2, 3, 4, 5, 6, 7, 8, 9, 10] σ2 = lw0 ns
    | _ => False := by
  obtain ⟨ob, hp, e0⟩ := pool_call ns k [some (.lst (ns.map .int)), some (.int k), none, none, none, none, none, none, none, none, none, none, none] S
  generalize hp' : S.length = p at e0
  generalize hS0 : S ++ [ob] = S0 at e0
  have hS : ∀ ob', (S0.set p ob')[p]? = some ob' := fun ob' => List.getElem?_set_self (by rw [← hS0, ← hp', List.length_append]; simp)
  have hset : S0 = S0.set p ob := by
    rw [← hS0, ← hp']
    simp
  rw [hset] at e0
  have ss : ∀ a b : Ob, (S0.set p a).set p b = S0.set p b := fun a b => List.set_set ..
  have hf : Sat (sFor [3, 4, 5, 6, 7, 8, 9, 10] (iRange1 (lCons (eK (.int 6)) lNil)) (tgName 3) qlaw_b4 (lS ns k p none none none none none none none none) (S0.set p ob)) fun f S => f = .next (lS ns k p none none none none none none none none) ∧ ∃ ob', IsPool ob' ∧ S = S0.set p ob' := by
    have ec : clr [3, 4, 5, 6, 7, 8, 9, 10] (lS ns k p none none none none none none none none) = lS ns k p none none none none none none none none := by simp only [clr_cons', clr_nil', List.set_cons_zero, List.set_cons_succ]
    rw [sFor_app, iRange1_nat (n := 6) rfl (by omega), Out.bind_ok, ec]
    refine forGo_range 6 (fun _ σ S => σ = lS ns k p none none none none none none none none ∧ ∃ ob', IsPool ob' ∧ S = S0.set p ob') ?_ (fun σ S h => ⟨by rw [h.1], h.2⟩) ⟨rfl, ob, hp, rfl⟩
    rintro j σ S _ ⟨rfl, ob1, hp1, rfl⟩
    refine (L_turn (Sx := fun ob => S0.set p ob) hS ss hp1 j).imp fun f S' q => ?_
    cases f with
    | next σ2 => exact q
    | cont σ2 => exact q.elim
    | brk σ2 => exact q.elim
    | ret d => exact q.elim
  obtain ⟨f, S1, e1, rfl, ob1, hp1, rfl⟩ := hf
  obtain ⟨ob2, hp2, e2⟩ := ops_right_ok hp1
  have c2 := L_call (Sx := fun ob => S0.set p ob) hS ss (n := 1) (f := f__law_ops_right) (ds := [.ref p]) (d := .bl true) rfl e2 rfl rfl hp1 hp2 (lS ns k p none none none none none none none none)
  refine ⟨.next (lS ns k p none none none none none none none none), S0.set p ob2, ?_, by simp only [clr_cons', clr_nil', List.set_cons_zero, List.set_cons_succ]⟩
  unfold qlaw_b5
  refine (sSeq_next (σ' := lS ns k p none none none none none none none none) (S' := S0.set p ob) (sSet_ok (d := .ref p) ?_)).trans ?_
  · rw [mBind_app, lCons_app]
    exact e0
  refine (sSeq_next e1).trans ?_
  exact (sIf_f (S' := S0.set p ob2) (bNot_ok (k := true) (eTru_bl (call1_ok (d := .ref p) (S' := S0.set p ob1) rfl c2)))).trans rfl
theorem law_holds : ∀ ns : List Int, ns.length ≤ 63 → f_law [.lst (ns.map .int)] [] = .ok (.bl true) [] := by
  intro ns hz
  have h : Sat (sFor [1, 2, 3, 4, 5, 6, 7, 8, 9, 10] (iRange1 (lCons (eCall fMax2 (lCons (eK (.int 1)) (lCons (eCall fMin2 (lCons (eK (.int 10)) (lCons (eCall fLen (lCons (eVar 0) lNil)) lNil))) lNil))) lNil)) (tgName 1) qlaw_b5 (lw0 ns) []) fun f _ => f = .next (lw0 ns) := by
    obtain ⟨m, hm, em⟩ : ∃ m : Nat, m ≤ 1000000 ∧ (lCons (eCall fMax2 (lCons (eK (.int 1)) (lCons (eCall fMin2 (lCons (eK (.int 10)) (lCons (eCall fLen (lCons (eVar 0) lNil)) lNil))) lNil))) lNil) (lw0 ns) [] = .ok [.int m] [] := by
      have e : eCall fLen (lCons (eVar 0) lNil) (lw0 ns) [] = .ok (.int (ns.length : Nat)) [] := by
        refine eCall1_ok (d := .lst (ns.map .int)) rfl ?_
        rw [fLen_lst, List.length_map]
      have e2 : eCall fMin2 (lCons (eK (.int 10)) (lCons (eCall fLen (lCons (eVar 0) lNil)) lNil)) (lw0 ns) [] = .ok (.int (min 10 ns.length : Nat)) [] := by
        refine eCall2_ok (d := .int 10) rfl e ?_
        exact fMin_nat 10 ns.length []
      refine ⟨max 1 (min 10 ns.length), by omega, ?_⟩
      have e4 : eCall fMax2 (lCons (eK (.int 1)) (lCons (eCall fMin2 (lCons (eK (.int 10)) (lCons (eCall fLen (lCons (eVar 0) lNil)) lNil))) lNil)) (lw0 ns) [] = .ok (.int (max 1 (min 10 ns.length) : Nat)) [] := eCall2_ok (d := .int 1) rfl e2 (fMax_nat 1 _ _)
      rw [lCons_app, e4]
      rfl
    have hc : clr [1, 2, 3, 4, 5, 6, 7, 8, 9, 10] (lw0 ns) = lw0 ns := by simp only [clr_cons', clr_nil', List.set_cons_zero, List.set_cons_succ]
    rw [sFor_app, iRange1_nat (n := m) em hm, Out.bind_ok, hc]
    refine forGo_range m (fun j σ S => σ = lw0 ns) ?_ (fun σ S h => by rw [h]) rfl
    rintro k σ S hk rfl
    refine (body_ok ns k S).imp fun f S' hf => ?_
    cases f with
    | next σ2 => exact hf
    | cont σ2 => exact hf.elim
    | brk σ2 => exact hf.elim
    | ret d => exact hf.elim
  obtain ⟨f, S', e, rfl⟩ := h
  refine runF_pure (S' := S') ?_
  show m_law (lw0 ns) [] = _
  unfold m_law
  exact (sSeq_next e).trans rfl
end K04
end
section
open PySem PySem.W PyProof.Rows in
set_option maxRecDepth 100000 in
set_option maxHeartbeats 0 in
theorem PySem.Challenge.cw_comeright_k04_what_terms_come_to_holds : PySem.Challenge.rw_comeright_k04_what_terms_come_to.Holds := by
  w_on; o_law; k_head; (case hw => w_witness2)
  k_fill
  refine K04.walk (l := PySem.Challenge.rw_comeright_k04_what_terms_come_to) rfl rfl ?nl (fun w h Y => PySem.W.kIn_of Y) ?F K04.law_holds
  case nl => intro w; first | rfl | kernel_rfl
  case F =>
    intro w mg fa h KX G hmg
    refine' K04.top_fa KX G hmg ?q_g0 ?q_l0 ?q_c0 ?q_k0 ?q_g1 ?q_l1 ?q_c1 ?q_k1 ?q_g2 ?q_l2 ?q_c2 ?q_k2 ?q_g3 ?q_l3 ?q_c3 ?q_k3 ?q_g4 ?q_l4 ?q_c4 ?q_k4 ?q_g5 ?q_l5 ?q_c5 ?q_k5 ?q_g6 ?q_l6 ?q_c6 ?q_k6 ?q_g7 ?q_l7 ?q_c7 ?q_k7 ?q_g8 ?q_l8 ?q_c8 ?q_k8 ?q_g9 ?q_l9 ?q_c9 ?q_k9 ?q_g10 ?q_l10 ?q_c10 ?q_k10 ?q_g11 ?q_l11 ?q_c11 ?q_k11 ?q_g12 ?q_l12 ?q_c12 ?q_k12 ?q_g13 ?q_l13 ?q_c13 ?q_k13 ?q_g14 ?q_l14 ?q_c14 ?q_k14 ?q_g15 ?q_l15 ?q_c15 ?q_k15 ?q_g16 ?q_l16 ?q_c16 ?q_k16 ?q_g17 ?q_l17 ?q_c17 ?q_k17 ?q_g18 ?q_l18 ?q_c18 ?q_k18 ?q_g19 ?q_l19 ?q_c19 ?q_k19 ?q_g20 ?q_l20 ?q_c20 ?q_k20 ?q_g21 ?q_l21 ?q_c21 ?q_k21 ?q_g22 ?q_l22 ?q_c22 ?q_k22 ?q_g23 ?q_l23 ?q_c23 ?q_k23 ?q_g24 ?q_l24 ?q_c24 ?q_k24 ?q_g25 ?q_l25 ?q_c25 ?q_k25 ?q_g26 ?q_l26 ?q_c26 ?q_k26 ?q_g27 ?q_l27 ?q_c27 ?q_k27 ?q_g28 ?q_l28 ?q_c28 ?q_k28 ?q_g29 ?q_l29 ?q_c29 ?q_k29 ?q_g30 ?q_l30 ?q_c30 ?q_k30 ?q_g31 ?q_l31 ?q_c31 ?q_k31 ?q_g32 ?q_l32 ?q_c32 ?q_k32 ?q_g33 ?q_l33 ?q_c33 ?q_k33 ?q_g34 ?q_l34 ?q_c34 ?q_k34 ?q_z_abs ?q_z_all ?q_z_bool ?q_z_int ?q_z_isinstance ?q_z_len ?q_z_list ?q_z_max ?q_z_min ?q_z_range ?q_z_repr ?q_z_sorted ?q_z_str ?q_z_sum ?q_z_tuple ?q_y_WORTHS ?q_y_MANY ?q_y_HEAP_LEAVES ?q_yl_HEAP_LEAVES ?q_y_OPS ?q_yl_OPS ?q_ys_OPS ?q_y_IF ?q_y_MOST_DEEP ?q_y_MOST_TERMS ?q_y_FIRST_LEAVES ?q_yl_FIRST_LEAVES ?q_y_NEXT_LEAVES ?q_yl_NEXT_LEAVES ?q_y_MOST_SEATS
    (case q_g0 => k_is)
    (case q_l0 => k_is)
    (case q_c0 => k_is)
    (case q_k0 => k_is)
    (case q_g1 => k_is)
    (case q_l1 => k_is)
    (case q_c1 => k_is)
    (case q_k1 => k_is)
    (case q_g2 => k_is)
    (case q_l2 => k_is)
    (case q_c2 => k_is)
    (case q_k2 => k_is)
    (case q_g3 => k_is)
    (case q_l3 => k_is)
    (case q_c3 => k_is)
    (case q_k3 => k_is)
    (case q_g4 => k_is)
    (case q_l4 => k_is)
    (case q_c4 => k_is)
    (case q_k4 => k_is)
    (case q_g5 => k_is)
    (case q_l5 => k_is)
    (case q_c5 => k_is)
    (case q_k5 => k_is)
    (case q_g6 => k_is)
    (case q_l6 => k_is)
    (case q_c6 => k_is)
    (case q_k6 => k_is)
    (case q_g7 => k_is)
    (case q_l7 => k_is)
    (case q_c7 => k_is)
    (case q_k7 => k_is)
    (case q_g8 => k_is)
    (case q_l8 => k_is)
    (case q_c8 => k_is)
    (case q_k8 => k_is)
    (case q_g9 => k_is)
    (case q_l9 => k_is)
    (case q_c9 => k_is)
    (case q_k9 => k_is)
    (case q_g10 => k_is)
    (case q_l10 => k_is)
    (case q_c10 => k_is)
    (case q_k10 => k_is)
    (case q_g11 => k_is)
    (case q_l11 => k_is)
    (case q_c11 => k_is)
    (case q_k11 => k_is)
    (case q_g12 => k_is)
    (case q_l12 => k_is)
    (case q_c12 => k_is)
    (case q_k12 => k_is)
    (case q_g13 => k_is)
    (case q_l13 => k_is)
    (case q_c13 => k_is)
    (case q_k13 => k_is)
    (case q_g14 => k_is)
    (case q_l14 => k_is)
    (case q_c14 => k_is)
    (case q_k14 => k_is)
    (case q_g15 => k_is)
    (case q_l15 => k_is)
    (case q_c15 => k_is)
    (case q_k15 => k_is)
    (case q_g16 => k_is)
    (case q_l16 => k_is)
    (case q_c16 => k_is)
    (case q_k16 => k_is)
    (case q_g17 => k_is)
    (case q_l17 => k_is)
    (case q_c17 => k_is)
    (case q_k17 => k_is)
    (case q_g18 => k_is)
    (case q_l18 => k_is)
    (case q_c18 => k_is)
    (case q_k18 => k_is)
    (case q_g19 => k_is)
    (case q_l19 => k_is)
    (case q_c19 => k_is)
    (case q_k19 => k_is)
    (case q_g20 => k_is)
    (case q_l20 => k_is)
    (case q_c20 => k_is)
    (case q_k20 => k_is)
    (case q_g21 => k_is)
    (case q_l21 => k_is)
    (case q_c21 => k_is)
    (case q_k21 => k_is)
    (case q_g22 => k_is)
    (case q_l22 => k_is)
    (case q_c22 => k_is)
    (case q_k22 => k_is)
    (case q_g23 => k_is)
    (case q_l23 => k_is)
    (case q_c23 => k_is)
    (case q_k23 => k_is)
    (case q_g24 => k_is)
    (case q_l24 => k_is)
    (case q_c24 => k_is)
    (case q_k24 => k_is)
    (case q_g25 => k_is)
    (case q_l25 => k_is)
    (case q_c25 => k_is)
    (case q_k25 => k_is)
    (case q_g26 => k_is)
    (case q_l26 => k_is)
    (case q_c26 => k_is)
    (case q_k26 => k_is)
    (case q_g27 => k_is)
    (case q_l27 => k_is)
    (case q_c27 => k_is)
    (case q_k27 => k_is)
    (case q_g28 => k_is)
    (case q_l28 => k_is)
    (case q_c28 => k_is)
    (case q_k28 => k_is)
    (case q_g29 => k_is)
    (case q_l29 => k_is)
    (case q_c29 => k_is)
    (case q_k29 => k_is)
    (case q_g30 => k_is)
    (case q_l30 => k_is)
    (case q_c30 => k_is)
    (case q_k30 => k_is)
    (case q_g31 => k_is)
    (case q_l31 => k_is)
    (case q_c31 => k_is)
    (case q_k31 => k_is)
    (case q_g32 => k_is)
    (case q_l32 => k_is)
    (case q_c32 => k_is)
    (case q_k32 => k_is)
    (case q_g33 => k_is)
    (case q_l33 => k_is)
    (case q_c33 => k_is)
    (case q_k33 => k_is)
    (case q_g34 => k_is)
    (case q_l34 => k_is)
    (case q_c34 => k_is)
    (case q_k34 => k_is)
    (case q_z_abs => k_is)
    (case q_z_all => k_is)
    (case q_z_bool => k_is)
    (case q_z_int => k_is)
    (case q_z_isinstance => k_is)
    (case q_z_len => k_is)
    (case q_z_list => k_is)
    (case q_z_max => k_is)
    (case q_z_min => k_is)
    (case q_z_range => k_is)
    (case q_z_repr => k_is)
    (case q_z_sorted => k_is)
    (case q_z_str => k_is)
    (case q_z_sum => k_is)
    (case q_z_tuple => k_is)
    (case q_y_WORTHS => k_is)
    (case q_y_MANY => k_is)
    (case q_y_HEAP_LEAVES => k_is)
    (case q_yl_HEAP_LEAVES => k_is)
    (case q_y_OPS => k_is)
    (case q_yl_OPS => k_is)
    (case q_ys_OPS => first | rfl | decide)
    (case q_y_IF => k_is)
    (case q_y_MOST_DEEP => k_is)
    (case q_y_MOST_TERMS => k_is)
    (case q_y_FIRST_LEAVES => k_is)
    (case q_yl_FIRST_LEAVES => k_is)
    (case q_y_NEXT_LEAVES => k_is)
    (case q_yl_NEXT_LEAVES => k_is)
    (case q_y_MOST_SEATS => k_is)
end
