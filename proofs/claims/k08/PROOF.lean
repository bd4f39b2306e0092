import PyProof.Rows.All
import Wide.All
import OpenK.AllK
import Wide.FinOn
import HandS.ForMost
import HandS.ForExc
import HandS.CallSlots
import HandS.Wide
import HandS.TupAny
import HandS.TupMul
import HandS.IsInst
import HandS.NoneIn
import HandS.Style
import HandS.Deep
import HandS.Conv
import HandS.Zip
import HandS.Walk
import HandS.Flow
import KE.SortData
import PyProof.ReprRoads
import PyProof.CallFns
import HandS.Ends
import HandS.SetFor
import KE.KUnpackStar
import HandS.DictComp
import HandS.WordsExc
import KE.KxText
import PyProof.ReprLen
import PySem.Challenge.RW_comeright_k08_whole_paths_and_parts
set_option Elab.async false
set_option linter.all false
set_option maxRecDepth 100000
section
/-! DL1: data over the hand layer: values as trees, a store of what may change, what an expression or a statement comes to. -/
namespace DL
open PySem PySem.Spec PyProof.Rows L2

/-- a value: data; an object of the store; a thing of the module by its name -/
inductive D where
  | pd (x : PyData)
  | ref (n : Nat)
  | glob (x : Str)
abbrev D.non : D := .pd .none
abbrev D.bl (b : Bool) : D := .pd (.bool b)
abbrev D.int (i : Int) : D := .pd (.int i)
abbrev D.str (x : Str) : D := .pd (.str x)
abbrev D.tup (xs : List PyData) : D := .pd (.tuple xs)
abbrev D.lst (xs : List PyData) : D := .pd (.list xs)
instance : Inhabited D := ⟨.non⟩
/-- an object that may change -/
inductive Ob where
  | lst (xs : List D)
  | dct (kvs : List (Key × D))
  | dtt (kvs : List (List Key × D))
  | ins (C : Str) (fs : List (Str × D))
abbrev Sto := List Ob
inductive ECls where
  | own (x : Str)
  | bt (n : String)
structure Exn where
  cls : ECls
  fs : List (Str × D)
inductive Out (α : Type) where
  | ok (a : α) (S : Sto)
  | exc (e : Exn) (σ : List (Option D)) (S : Sto)
  | stuck
abbrev Sl := List (Option D)
abbrev DM (α : Type) := Sl → Sto → Out α
def Out.bind {α β : Type} : Out α → (α → Sto → Out β) → Out β
  | .ok a S, f => f a S
  | .exc e σ S, _ => .exc e σ S
  | .stuck, _ => .stuck
@[simp] theorem Out.bind_ok {α β : Type} (a : α) (S : Sto) (f : α → Sto → Out β) : (Out.ok a S).bind f = f a S := rfl
@[simp] theorem Out.bind_exc {α β : Type} (e : Exn) (σ : Sl) (S : Sto) (f : α → Sto → Out β) : (Out.exc e σ S : Out α).bind f = .exc e σ S := rfl
@[simp] theorem Out.bind_stuck {α β : Type} (f : α → Sto → Out β) : (Out.stuck : Out α).bind f = .stuck := rfl

/-- the ground of a body: the written part, the module's names, what the callers may change, the heap at the entry, the objects handed in to be changed -/
structure G where
  K : PySem.W.Frag
  mg : Str → Option Value
  W : Addr → Prop
  H0 : Hp
  as : List Addr
def G.wr (g : G) (M : List Addr) (a : Addr) : Prop := g.W a ∨ a ∈ M

/-! ### what data a value is -/
mutual
inductive Dz (K : PySem.W.Frag) (W : Addr → Prop) (H : Hp) : V → PyData → Prop
  | non : Dz K W H .non .none
  | bl (b : Bool) : Dz K W H (.bl b) (.bool b)
  | int (i : Int) : Dz K W H (.int i) (.int i)
  | str (x : Str) : Dz K W H (.str x) (.str x)
  | lst {a : Addr} {xs : List V} {ds : List PyData} : ¬ W a → Rd H a (.lst xs) → DzAll K W H xs ds → Dz K W H (.ref a) (.list ds)
  | tup {a : Addr} {xs : List V} {ds : List PyData} : SqT K H a xs → DzAll K W H xs ds → Dz K W H (.ref a) (.tuple ds)
  | dct {a : Addr} {kvs : List (Key × V)} {ks ds : List PyData} : ¬ W a → Rd H a (.dK kvs) → DzAll K W H (kvs.map fun p => kV p.1) ks → DzAll K W H (kvs.map (·.2)) ds → Dz K W H (.ref a) (.dict (ks.zip ds))
inductive DzAll (K : PySem.W.Frag) (W : Addr → Prop) (H : Hp) : List V → List PyData → Prop
  | nil : DzAll K W H [] []
  | cons {v : V} {vs : List V} {d : PyData} {ds : List PyData} : Dz K W H v d → DzAll K W H vs ds → DzAll K W H (v :: vs) (d :: ds)
end
section
variable {K : PySem.W.Frag} {W W' : Addr → Prop} {H H' : Hp}
theorem Rd.keep {a : Addr} {u : HO} (r : Rd H a u) (k : ∀ o, H a = some o → H' a = some o) : Rd H' a u := by
  rcases r with r | ⟨o, r⟩
  · exact .inl (k _ r)
  · exact .inr ⟨o, k _ r⟩
theorem Rd.there {a : Addr} {u : HO} (r : Rd H a u) : ∃ o, H a = some o := by
  rcases r with r | ⟨o, r⟩
  · exact ⟨_, r⟩
  · exact ⟨_, r⟩
theorem SqT.keep {a : Addr} {xs : List V} (h : SqT K H a xs) (k : ∀ ys, (H a = some (.tup ys) ∨ ∃ o, H a = some (.frz o (.tup ys))) → ∀ o, H a = some o → H' a = some o) : SqT K H' a xs := by
  rcases h with h | h
  · exact .inl (Rd.keep h (k xs h))
  · exact .inr h
/-- what was not to be changed is as it was; nothing that was fixed is now to be changed -/
structure Kp (W W' : Addr → Prop) (H H' : Hp) : Prop where
  keep : ∀ a o, H a = some o → ¬ W a → H' a = some o
  fixed : ∀ a o, H a = some o → ¬ W a → ¬ W' a
  tups : ∀ a, W a → ∀ xs, H a ≠ some (.tup xs) ∧ ∀ o, H a ≠ some (.frz o (.tup xs))
mutual
theorem Dz.keep (k : Kp W W' H H') : ∀ {d : PyData} {v : V}, Dz K W H v d → Dz K W' H' v d
  | _, _, .non => .non
  | _, _, .bl b => .bl b
  | _, _, .int i => .int i
  | _, _, .str x => .str x
  | _, _, .lst nw r ha => by
      obtain ⟨o, e⟩ := Rd.there r
      exact .lst (k.fixed _ o e nw) (Rd.keep r fun o e => k.keep _ o e nw) (DzAll.keep k ha)
  | _, _, .tup r ha => by
      refine .tup (SqT.keep r fun ys e o e' => k.keep _ o e' fun w => ?_) (DzAll.keep k ha)
      rcases e with e | ⟨o2, e⟩
      · exact (k.tups _ w ys).1 e
      · exact (k.tups _ w ys).2 o2 e
  | _, _, .dct nw r h1 h2 => by
      obtain ⟨o, e⟩ := Rd.there r
      exact .dct (k.fixed _ o e nw) (Rd.keep r fun o e => k.keep _ o e nw) (DzAll.keep k h1) (DzAll.keep k h2)
theorem DzAll.keep (k : Kp W W' H H') : ∀ {ds : List PyData} {vs : List V}, DzAll K W H vs ds → DzAll K W' H' vs ds
  | _, _, .nil => .nil
  | _, _, .cons h1 h2 => .cons (Dz.keep k h1) (DzAll.keep k h2)
end
end
end DL
end
section
namespace DL
open PySem PySem.Spec PyProof.Rows L2

/-- what a value of the language is here: M tells where the store's objects stand -/
inductive Den (g : G) (M : List Addr) (H : Hp) : D → V → Prop
  | pd {d : PyData} {v : V} : Dz g.K (g.wr M) H v d → Den g M H (.pd d) v
  | ref {n : Nat} {a : Addr} : M[n]? = some a → Den g M H (.ref n) (.ref a)
  | glob {x : Str} {a : Addr} : g.mg x = some (.ref a) → Den g M H (.glob x) (.ref a)
abbrev Dens (g : G) (M : List Addr) (H : Hp) : List D → List V → Prop := Paired (Den g M H)
def NT (o : HO) : Prop := (∀ xs, o ≠ .tup xs) ∧ ∀ ob xs, o ≠ .frz ob (.tup xs)
inductive ObDen (g : G) (M : List Addr) (H : Hp) (a : Addr) : Ob → Prop
  | lst {ds : List D} {vs : List V} : H a = some (.lst vs) → Dens g M H ds vs → ObDen g M H a (.lst ds)
  | dct {kvs : List (Key × D)} {ws : List (Key × V)} : H a = some (.dK ws) → Paired (fun p q => p.1 = q.1 ∧ Den g M H p.2 q.2) kvs ws → ObDen g M H a (.dct kvs)
  | dtt {kvs : List (List Key × D)} {ws : List (List Key × V)} : H a = some (.dT ws) → Paired (fun p q => p.1 = q.1 ∧ Den g M H p.2 q.2) kvs ws → ObDen g M H a (.dtt kvs)
  | ins {C : Str} {Ca dx : Addr} {fs : List (Str × D)} {ws : List (Str × V)} : g.mg C = some (.ref Ca) → H a = some (.ins Ca dx ws) → Paired (fun p q => p.1 = q.1 ∧ Den g M H p.2 q.2) fs ws → ObDen g M H a (.ins C fs)
structure RepS (g : G) (M : List Addr) (S : Sto) (H : Hp) : Prop where
  nd : M.Nodup
  pre : g.as <+: M
  obs : Paired (fun ob a => ObDen g M H a ob) S M
  fresh : ∀ a ∈ M, a ∉ g.as → g.H0 a = none
  own : ∀ a ∈ M, a ∉ g.as → ¬ g.W a
  keep : ∀ a o, g.H0 a = some o → a ∉ g.as → H a = some o
  amb : ∀ a, g.W a → ∃ o, H a = some o ∧ NT o
  asW : ∀ a ∈ g.as, g.W a
structure Ext (g : G) (M : List Addr) (H : Hp) (M' : List Addr) (H' : Hp) : Prop where
  pre : M <+: M'
  new : ∀ a ∈ M', a ∉ M → H a = none
  keep : ∀ a o, H a = some o → a ∉ M → H' a = some o
  there : ∀ a o, H a = some o → ∃ o', H' a = some o'
section
variable {g : G} {M M' M'' : List Addr} {H H' H'' : Hp} {S : Sto}
theorem Ext.refl : Ext g M H M H := ⟨List.prefix_refl _, fun _ h n => absurd h n, fun _ _ e _ => e, fun _ o e => ⟨o, e⟩⟩
theorem mem_pre {a : Addr} {l l' : List Addr} (p : l <+: l') (h : a ∈ l) : a ∈ l' := p.subset h
theorem Ext.trans (x : Ext g M H M' H') (y : Ext g M' H' M'' H'') : Ext g M H M'' H'' where
  pre := x.pre.trans y.pre
  new := fun a h n => by
    by_cases h' : a ∈ M'
    · exact x.new a h' n
    · cases e : H a with
      | none => rfl
      | some o =>
        obtain ⟨o', e'⟩ := x.there a o e
        have := y.new a h h'
        rw [e'] at this; cases this
  keep := fun a o e n => y.keep a o (x.keep a o e n) fun h => by
    have := x.new a h n
    rw [e] at this; cases this
  there := fun a o e => let ⟨o', e'⟩ := x.there a o e; y.there a o' e'
theorem ObDen.there {a : Addr} {ob : Ob} (h : ObDen g M H a ob) : ∃ o, H a = some o ∧ NT o := by
  cases h with
  | lst e _ => exact ⟨_, e, fun _ => by simp, fun _ _ => by simp⟩
  | dct e _ => exact ⟨_, e, fun _ => by simp, fun _ _ => by simp⟩
  | dtt e _ => exact ⟨_, e, fun _ => by simp, fun _ _ => by simp⟩
  | ins _ e _ => exact ⟨_, e, fun _ => by simp, fun _ _ => by simp⟩
theorem Paired.mem_right {α β : Type} {F : α → β → Prop} : ∀ {l : List α} {l' : List β}, Paired F l l' → ∀ b ∈ l', ∃ a ∈ l, F a b
  | _, _, .nil, _, h => by cases h
  | _, _, .cons r t, b, h => by
    rcases List.mem_cons.mp h with rfl | h
    · exact ⟨_, List.mem_cons_self, r⟩
    · obtain ⟨a, ha, f⟩ := Paired.mem_right t b h
      exact ⟨a, List.mem_cons_of_mem _ ha, f⟩
theorem Paired.get {α β : Type} {F : α → β → Prop} : ∀ {l : List α} {l' : List β}, Paired F l l' → ∀ {i : Nat} {a : α}, l[i]? = some a → ∃ b, l'[i]? = some b ∧ F a b
  | _, _, .nil, i, _, h => by simp at h
  | _, _, .cons r t, 0, _, h => by
    simp at h; subst h
    exact ⟨_, by simp, r⟩
  | _, _, .cons r t, i + 1, _, h => by
    obtain ⟨b, e, f⟩ := Paired.get t (i := i) (by simpa using h)
    exact ⟨b, by simpa using e, f⟩
theorem Paired.getR {α β : Type} {F : α → β → Prop} : ∀ {l : List α} {l' : List β}, Paired F l l' → ∀ {i : Nat} {b : β}, l'[i]? = some b → ∃ a, l[i]? = some a ∧ F a b
  | _, _, .nil, i, _, h => by simp at h
  | _, _, .cons r t, 0, _, h => by
    simp at h; subst h
    exact ⟨_, by simp, r⟩
  | _, _, .cons r t, i + 1, _, h => by
    obtain ⟨b, e, f⟩ := Paired.getR t (i := i) (by simpa using h)
    exact ⟨b, by simpa using e, f⟩
theorem Paired.imp {α β : Type} {F F' : α → β → Prop} : ∀ {l : List α} {l' : List β}, Paired F l l' → (∀ a b, F a b → F' a b) → Paired F' l l'
  | _, _, .nil, _ => .nil
  | _, _, .cons r t, f => .cons (f _ _ r) (Paired.imp t f)
theorem Paired.app {α β : Type} {F : α → β → Prop} : ∀ {l m : List α} {l' m' : List β}, Paired F l l' → Paired F m m' → Paired F (l ++ m) (l' ++ m')
  | _, _, _, _, .nil, h => h
  | _, _, _, _, .cons r t, h => .cons r (Paired.app t h)
theorem Paired.setR {α β : Type} {F : α → β → Prop} {a : α} {b : β} (f : F a b) : ∀ {l : List α} {l' : List β}, Paired F l l' → ∀ (i : Nat), Paired F (l.set i a) (l'.set i b)
  | _, _, .nil, _ => .nil
  | _, _, .cons r t, 0 => .cons f t
  | _, _, .cons r t, i + 1 => .cons r (Paired.setR f t i)
theorem Paired.len {α β : Type} {F : α → β → Prop} : ∀ {l : List α} {l' : List β}, Paired F l l' → l.length = l'.length
  | _, _, .nil => rfl
  | _, _, .cons _ t => by rw [List.length_cons, List.length_cons, Paired.len t]
theorem RepS.there (r : RepS g M S H) {a : Addr} (h : a ∈ M) : ∃ o, H a = some o ∧ NT o := by
  obtain ⟨ob, _, d⟩ := Paired.mem_right r.obs a h
  exact d.there
theorem RepS.wr_there (r : RepS g M S H) {a : Addr} (h : g.wr M a) : ∃ o, H a = some o ∧ NT o := by
  rcases h with h | h
  · exact r.amb a h
  · exact r.there h
/-- data stays what it is -/
theorem kp (r : RepS g M S H) (x : Ext g M H M' H') : Kp (g.wr M) (g.wr M') H H' where
  keep := fun a o e n => x.keep a o e fun h => n (.inr h)
  fixed := fun a o e n h => by
    rcases h with h | h
    · exact n (.inl h)
    · have := x.new a h fun h' => n (.inr h')
      rw [e] at this; cases this
  tups := fun a w xs => by
    obtain ⟨o, e, nt⟩ := r.wr_there w
    exact ⟨fun q => by rw [e] at q; cases q; exact nt.1 xs rfl, fun o' q => by rw [e] at q; cases q; exact nt.2 o' xs rfl⟩
theorem Den.ext (r : RepS g M S H) (x : Ext g M H M' H') {d : D} {v : V} (h : Den g M H d v) : Den g M' H' d v := by
  cases h with
  | pd h => exact .pd (h.keep (kp r x))
  | ref h =>
    obtain ⟨t, rfl⟩ := x.pre
    exact .ref (by rw [List.getElem?_append_left (List.getElem?_eq_some_iff.mp h).1]; exact h)
  | glob h => exact .glob h
theorem Dens.ext (r : RepS g M S H) (x : Ext g M H M' H') {ds : List D} {vs : List V} (h : Dens g M H ds vs) : Dens g M' H' ds vs := Paired.imp h fun _ _ d => d.ext r x
theorem wr_asc {M : List Addr} {a : Addr} : g.wr M a ↔ g.W a ∨ a ∈ M := Iff.rfl

/-- a new object that stays as it is -/
theorem Ext.new1 {p : Addr} {o : HO} (n : H p = none) : Ext g M H M (upd H p o) :=
  ⟨List.prefix_refl _, fun _ h n => absurd h n, fun a u e _ => by rw [upd_ne (ne_of_none e n)]; exact e, fun a u e => ⟨u, by rw [upd_ne (ne_of_none e n)]; exact e⟩⟩
theorem ObDen.ext (r : RepS g M S H) (x : Ext g M H M' H') {a : Addr} {ob : Ob} (h : ObDen g M H a ob) (k : ∀ o, H a = some o → H' a = some o) : ObDen g M' H' a ob := by
  cases h with
  | lst e d => exact .lst (k _ e) (d.ext r x)
  | dct e d => exact .dct (k _ e) (Paired.imp d fun _ _ q => ⟨q.1, q.2.ext r x⟩)
  | dtt e d => exact .dtt (k _ e) (Paired.imp d fun _ _ q => ⟨q.1, q.2.ext r x⟩)
  | ins c e d => exact .ins c (k _ e) (Paired.imp d fun _ _ q => ⟨q.1, q.2.ext r x⟩)
theorem RepS.new1 {p : Addr} {o : HO} (r : RepS g M S H) (n : H p = none) : RepS g M S (upd H p o) where
  nd := r.nd
  pre := r.pre
  obs := Paired.imp r.obs fun ob a d => d.ext r (Ext.new1 n) fun u e => by rw [upd_ne (ne_of_none e n)]; exact e
  fresh := r.fresh
  own := r.own
  keep := fun a u e na => by rw [upd_ne (ne_of_none (r.keep a u e na) n)]; exact r.keep a u e na
  amb := fun a w => let ⟨u, e, nt⟩ := r.amb a w; ⟨u, by rw [upd_ne (ne_of_none e n)]; exact e, nt⟩
  asW := r.asW
/-- a new address is nobody's -/
theorem RepS.free (r : RepS g M S H) {p : Addr} (n : H p = none) : ¬ g.wr M p := fun w => by
  obtain ⟨o, e, _⟩ := r.wr_there w
  rw [n] at e; cases e
/-- a new object of the store -/
theorem Ext.newM {p : Addr} {o : HO} (n : H p = none) : Ext g M H (M ++ [p]) (upd H p o) :=
  ⟨List.prefix_append _ _, fun a h na => by
    rcases List.mem_append.mp h with h | h
    · exact absurd h na
    · have e : a = p := by simpa using h
      rw [e]; exact n, fun a u e _ => by rw [upd_ne (ne_of_none e n)]; exact e, fun a u e => ⟨u, by rw [upd_ne (ne_of_none e n)]; exact e⟩⟩
theorem RepS.newM {p : Addr} {o : HO} {ob : Ob} (r : RepS g M S H) (n : H p = none) (h : ObDen g (M ++ [p]) (upd H p o) p ob) (h0 : ∀ u, g.H0 p = some u → False) : RepS g (M ++ [p]) (S ++ [ob]) (upd H p o) where
  nd := by
    rw [List.nodup_append]
    refine ⟨r.nd, by simp, fun a ha b hb e => ?_⟩
    have e2 : b = p := by simpa using hb
    subst e e2
    exact r.free n (.inr ha)
  pre := r.pre.trans (List.prefix_append _ _)
  obs := Paired.app (Paired.imp r.obs fun ob a d => d.ext r (Ext.newM n) fun u e => by rw [upd_ne (ne_of_none e n)]; exact e) (.cons h .nil)
  fresh := fun a h na => by
    rcases List.mem_append.mp h with h | h
    · exact r.fresh a h na
    · have e : a = p := by simpa using h
      subst e
      cases q : g.H0 a with
      | none => rfl
      | some u => exact (h0 u q).elim
  own := fun a h na => by
    rcases List.mem_append.mp h with h | h
    · exact r.own a h na
    · have e : a = p := by simpa using h
      subst e
      exact fun w => r.free n (.inl w)
  keep := fun a u e na => by rw [upd_ne (ne_of_none (r.keep a u e na) n)]; exact r.keep a u e na
  amb := fun a w => let ⟨u, e, nt⟩ := r.amb a w; ⟨u, by rw [upd_ne (ne_of_none e n)]; exact e, nt⟩
  asW := r.asW
theorem RepS.h0 (r : RepS g M S H) {p : Addr} (n : H p = none) : ∀ u, g.H0 p = some u → False := fun u e => by
  by_cases h : p ∈ g.as
  · obtain ⟨o, q, _⟩ := r.amb p (r.asW p h)
    rw [n] at q; cases q
  · have := r.keep p u e h
    rw [n] at this; cases this
/-- an object of the store is changed -/
theorem Ext.write {n : Nat} {a : Addr} {o : HO} (e : M[n]? = some a) : Ext g M H M (upd H a o) :=
  ⟨List.prefix_refl _, fun _ h n => absurd h n, fun b u q nb => by
    rw [upd_ne (show b ≠ a from fun z => nb (by rw [z]; exact List.mem_of_getElem? e))]; exact q, fun b u q => by
    by_cases z : b = a
    · subst z; exact ⟨o, upd_same⟩
    · exact ⟨u, by rw [upd_ne z]; exact q⟩⟩
theorem RepS.write {n : Nat} {a : Addr} {o : HO} {ob : Ob} (r : RepS g M S H) (e : M[n]? = some a) (nt : NT o) (h : ObDen g M (upd H a o) a ob) : RepS g M (S.set n ob) (upd H a o) where
  nd := r.nd
  pre := r.pre
  obs := by
    have x : Ext g M H M (upd H a o) := Ext.write e
    have key : ∀ (S : Sto) (L : List Addr) (n : Nat), L.Nodup → L[n]? = some a → Paired (fun ob b => ObDen g M H b ob) S L → Paired (fun ob b => ObDen g M (upd H a o) b ob) (S.set n ob) L := by
      intro S L n nd e q
      induction q generalizing n with
      | nil => exact .nil
      | @cons b c bs cs r1 t ih =>
        have nd' := List.nodup_cons.mp nd
        cases n with
        | zero =>
          simp at e
          subst e
          refine .cons h ?_
          clear ih
          have : ∀ (bs : Sto) (cs : List Addr), c ∉ cs → Paired (fun ob b => ObDen g M H b ob) bs cs → Paired (fun ob b => ObDen g M (upd H c o) b ob) bs cs := by
            intro bs cs hn q
            induction q with
            | nil => exact .nil
            | @cons b' c' _ _ r2 _ ih2 =>
              exact .cons (r2.ext r x fun u e => by rw [upd_ne (show c' ≠ c from fun z => hn (by rw [z]; exact List.mem_cons_self))]; exact e) (ih2 fun z => hn (List.mem_cons_of_mem _ z))
          exact this bs cs nd'.1 t
        | succ n =>
          simp at e
          refine .cons (r1.ext r x fun u e' => ?_) (ih n nd'.2 e)
          rw [upd_ne (show c ≠ a from fun z => nd'.1 (by rw [z]; exact List.mem_of_getElem? e))]; exact e'
    exact key S M n r.nd e r.obs
  fresh := r.fresh
  own := r.own
  keep := fun b u q na => by
    rw [upd_ne ?_]
    · exact r.keep b u q na
    · intro z
      subst z
      have := r.fresh b (List.mem_of_getElem? e) na
      rw [q] at this; cases this
  amb := fun b w => by
    by_cases z : b = a
    · subst z; exact ⟨o, upd_same, nt⟩
    · obtain ⟨u, q, nt⟩ := r.amb b w
      exact ⟨u, by rw [upd_ne z]; exact q, nt⟩
  asW := r.asW
theorem RepS.ob (r : RepS g M S H) {n : Nat} {ob : Ob} (e : S[n]? = some ob) : ∃ a, M[n]? = some a ∧ ObDen g M H a ob := Paired.get r.obs e
end
end DL
end
section
namespace DL
open PySem PySem.Spec PyProof.Rows L2
abbrev St := L2.St

def ClsIs (g : G) : ECls → Value → Prop
  | .own x, c => ∃ C, g.mg x = some (.ref C) ∧ c = .ref C
  | .bt n, c => c = .type n
inductive ExDen (g : G) (L : List Addr) (H : Hp) (e : Exn) : Value → Option Addr → Prop
  | none {c : Value} : ClsIs g e.cls c → e.fs = [] → ExDen g L H e c none
  | some {c : Value} {d : Addr} {ws : List (Str × V)} : ClsIs g e.cls c → H d = some (.xd ws) → Paired (fun p q => p.1 = q.1 ∧ Den g L H p.2 q.2) e.fs ws → ExDen g L H e c (some d)
def SlDen (g : G) (L : List Addr) (H : Hp) (σd : Sl) (σ : L2.St) : Prop := ∀ (i : Nat) (d : D), σd[i]? = some (some d) → ∃ v, σ[i]? = some (some v) ∧ Den g L H d v
/-- what an outcome is to bring -/
def Ev (g : G) (E : WX) (L : List Addr) (H : Hp) {α : Type} : Out α → (α → Sto → List Addr → Hp → Prop) → Prop
  | .ok a S', P => ∀ L' H', Ext g L H L' H' → RepS g L' S' H' → P a S' L' H'
  | .exc e σd S', _ => ∀ L' H' c x σ, Ext g L H L' H' → RepS g L' S' H' → SlDen g L' H' σd σ → ExDen g L' H' e c x → E c x σ H'
  | .stuck, _ => False
def PV (g : G) (Q : VK) : D → Sto → List Addr → Hp → Prop := fun d _ L H => ∀ v, Den g L H d v → Q v H
def PB (Q : Bool → Hp → Prop) : Bool → Sto → List Addr → Hp → Prop := fun b _ _ H => Q b H
def PL (g : G) (Q : List V → Hp → Prop) : List D → Sto → List Addr → Hp → Prop := fun d _ L H => ∀ v, Dens g L H d v → Q v H
inductive Fl where
  | next (σ : Sl)
  | ret (d : D)
  | brk (σ : Sl)
  | cont (σ : Sl)
def PF (g : G) (D : Ends) : Fl → Sto → List Addr → Hp → Prop
  | .next σd, _, L, H => ∀ σ, SlDen g L H σd σ → D.nx σ H
  | .brk σd, _, L, H => ∀ σ, SlDen g L H σd σ → D.bk σ H
  | .cont σd, _, L, H => ∀ σ, SlDen g L H σd σ → D.ct σ H
  | .ret d, _, L, H => ∀ v, Den g L H d v → D.rt v H
def PSl (g : G) (Q : St → Hp → Prop) : Sl → Sto → List Addr → Hp → Prop := fun σd _ L H => ∀ σ, SlDen g L H σd σ → Q σ H
/-- the readings by data -/
def T (g : G) (E : WX) (m : DM D) : TE := fun σ H Q => ∃ L σd S, RepS g L S H ∧ SlDen g L H σd σ ∧ Ev g E L H (m σd S) (PV g Q)
def TB (g : G) (E : WX) (m : DM Bool) : TT := fun σ H Q => ∃ L σd S, RepS g L S H ∧ SlDen g L H σd σ ∧ Ev g E L H (m σd S) (PB Q)
def TL (g : G) (E : WX) (m : DM (List D)) : TA := fun σ H Q => ∃ L σd S, RepS g L S H ∧ SlDen g L H σd σ ∧ Ev g E L H (m σd S) (PL g Q)
def TSt (g : G) (E : WX) (m : DM Fl) : TS := fun D σ H => ∃ L σd S, RepS g L S H ∧ SlDen g L H σd σ ∧ Ev g E L H (m σd S) (PF g D)
def TTg (g : G) (E : WX) (f : D → DM Sl) : TG := fun v σ H Q => ∃ L σd S, RepS g L S H ∧ SlDen g L H σd σ ∧ ∃ d, Den g L H d v ∧ Ev g E L H (f d σd S) (PSl g Q)
def TTgs (g : G) (E : WX) (f : List D → DM Sl) : TGs := fun vs σ H Q => ∃ L σd S, RepS g L S H ∧ SlDen g L H σd σ ∧ ∃ ds, Dens g L H ds vs ∧ Ev g E L H (f ds σd S) (PSl g Q)

theorem PE.imp {X : Cx} {e : Expr} {t t' : TE} (h : PE X e t) (i : ∀ σ H Q, t' σ H Q → t σ H Q) : PE X e t' := ⟨fun p s σ H Q I q => h.run p s σ H Q I (i σ H Q q)⟩
theorem PT.imp {X : Cx} {e : Expr} {t t' : TT} (h : PT X e t) (i : ∀ σ H Q, t' σ H Q → t σ H Q) : PT X e t' := ⟨fun p s σ H Q I q => h.run p s σ H Q I (i σ H Q q)⟩
theorem PW.imp {X : Cx} {e : Expr} {t t' : TT} (h : PW X e t) (i : ∀ σ H Q, t' σ H Q → t σ H Q) : PW X e t' := ⟨fun w p s σ H Q I q => h.run w p s σ H Q I (i σ H Q q)⟩
theorem PA.imp {X : Cx} {e : List Expr} {t t' : TA} (h : PA X e t) (i : ∀ σ H Q, t' σ H Q → t σ H Q) : PA X e t' := ⟨fun w p s σ H Q I q => h.run w p s σ H Q I (i σ H Q q)⟩
theorem PS.imp {X : Cx} {e : Stmt} {t t' : TS} (h : PS X e t) (i : ∀ D σ H, t' D σ H → t D σ H) : PS X e t' := ⟨fun p s σ H D I q => h.run p s σ H D I (i D σ H q)⟩
theorem PSs.imp {X : Cx} {e : List Stmt} {t t' : TS} (h : PSs X e t) (i : ∀ D σ H, t' D σ H → t D σ H) : PSs X e t' := ⟨fun p s σ H D I q => h.run p s σ H D I (i D σ H q)⟩
theorem PG.imp {X : Cx} {e : Expr} {t t' : TG} (h : PG X e t) (i : ∀ v σ H Q, t' v σ H Q → t v σ H Q) : PG X e t' := ⟨fun p s σ H v u Q I r q => h.run p s σ H v u Q I r (i v σ H Q q)⟩
theorem PGs.imp {X : Cx} {e : List Expr} {t t' : TGs} (h : PGs X e t) (i : ∀ v σ H Q, t' v σ H Q → t v σ H Q) : PGs X e t' := ⟨fun p s σ H v u Q I r q => h.run p s σ H v u Q I r (i v σ H Q q)⟩

/-! ### one after another -/
def mBind {α β : Type} (m : DM α) (f : α → DM β) : DM β := fun σ S => (m σ S).bind fun a S' => f a σ S'
def mRet {α : Type} (a : α) : DM α := fun _ S => .ok a S
def mStuck {α : Type} : DM α := fun _ _ => .stuck
def ofO {α : Type} (o : Option α) (S : Sto) : Out α := match o with
  | some d => .ok d S
  | none => .stuck
section
variable {α β : Type} {g : G} {E : WX} {L L' L'' : List Addr} {H H' H'' : Hp} {S S' : Sto} {σd : Sl} {σ : St}
theorem SlDen.ext (r : RepS g L S H) (x : Ext g L H L' H') (h : SlDen g L H σd σ) : SlDen g L' H' σd σ := fun i d e =>
  let ⟨v, e', q⟩ := h i d e
  ⟨v, e', q.ext r x⟩
theorem Ev.imp {o : Out α} {P P' : α → Sto → List Addr → Hp → Prop} (h : Ev g E L H o P) (i : ∀ a S' L' H', Ext g L H L' H' → RepS g L' S' H' → P a S' L' H' → P' a S' L' H') : Ev g E L H o P' := by
  cases o with
  | ok a S => exact fun L' H' x r => i a S L' H' x r (h L' H' x r)
  | exc e σ S => exact h
  | stuck => exact h
theorem Ev.of {o : Out α} {P : α → Sto → List Addr → Hp → Prop} (x : Ext g L H L' H') (h : Ev g E L H o P) : Ev g E L' H' o P := by
  cases o with
  | ok a S => exact fun L2 H2 y r => h L2 H2 (x.trans y) r
  | exc e σ S => exact fun L2 H2 c z σ y r s d => h L2 H2 c z σ (x.trans y) r s d
  | stuck => exact h
theorem Ev.bind {m : Out α} {f : α → Sto → Out β} {P : β → Sto → List Addr → Hp → Prop} (h : Ev g E L H (m.bind f) P) : Ev g E L H m (fun a S' L' H' => Ev g E L' H' (f a S') P) := by
  cases m with
  | ok a S => exact fun L' H' x r => Ev.of x h
  | exc e σ S => exact h
  | stuck => exact h
/-- the first part run, then the rest at the state behind -/
theorem Ev.step {m : DM α} {f : α → DM β} {P : β → Sto → List Addr → Hp → Prop} {P' : α → Sto → List Addr → Hp → Prop} (h : Ev g E L H (mBind m f σd S) P)
    (i : ∀ a S' L' H', Ext g L H L' H' → RepS g L' S' H' → Ev g E L' H' (f a σd S') P → P' a S' L' H') : Ev g E L H (m σd S) P' := (Ev.bind h).imp i
theorem Ev.ok {a : α} {P : α → Sto → List Addr → Hp → Prop} (h : Ev g E L H (.ok a S) P) (r : RepS g L S H) : P a S L H := h L H Ext.refl r

/-! ### names, constants -/
def eVar (i : Nat) : DM D := fun σ S => match σ[i]? with
  | some (some d) => .ok d S
  | _ => .stuck
def eK (d : D) : DM D := fun _ S => .ok d S
variable {X : Cx} {pos : Pos}
theorem pd_var (i : Nat) {x : Str} (hN : X.N[i]? = some x := by rfl) (hv : Vis X.env.scope x := by first | exact Or.inl rfl | exact Or.inr (Or.inl rfl) | exact Or.inr (Or.inr rfl)) (hd : (x == ("__debug__" : Str)) = false := by decide)
    (hcd : (x == ("__classdict__" : Str)) = false := by decide) : PE X (.Name x pos) (T g E (eVar i)) :=
  PE.imp (pe_var hN hv hd hcd) fun σ H Q ⟨L, σd, S, r, sl, ev⟩ => by
    unfold eVar at ev
    split at ev
    · rename_i d e
      obtain ⟨v, e', dn⟩ := sl i d e
      exact ⟨v, e', ev.ok r v dn⟩
    · exact ev.elim
theorem pd_int {i : Int} {j} : PE X (.Constant (.int i) j pos) (T g E (eK (.int i))) := PE.imp pe_int fun σ H Q ⟨L, σd, S, r, sl, ev⟩ => ev.ok r _ (.pd (.int i))
theorem pd_bl {b j} : PE X (.Constant (.bool b) j pos) (T g E (eK (.bl b))) := PE.imp pe_bl fun σ H Q ⟨L, σd, S, r, sl, ev⟩ => ev.ok r _ (.pd (.bl b))
theorem pd_str {b j} : PE X (.Constant (.str b) j pos) (T g E (eK (.str b))) := PE.imp pe_str fun σ H Q ⟨L, σd, S, r, sl, ev⟩ => ev.ok r _ (.pd (.str b))
theorem pd_non {j} : PE X (.Constant .none j pos) (T g E (eK .non)) := PE.imp pe_non fun σ H Q ⟨L, σd, S, r, sl, ev⟩ => ev.ok r _ (.pd .non)
/-- a module's int -/
theorem pd_globI {x : Str} {i : Int} (hg : Gl X x) (hm : ∃ t, X.mg x = some (.int i t)) (hd : (x == ("__debug__" : Str)) = false := by decide) : PE X (.Name x pos) (T g E (eK (.int i))) := by
  obtain ⟨t, hm⟩ := hm
  exact PE.imp (pe_glob (v := .int i) hg hm ⟨t, rfl⟩ hd) fun σ H Q ⟨L, σd, S, r, sl, ev⟩ => ev.ok r _ (.pd (.int i))
theorem pd_globS {x : Str} {i : Str} (hg : Gl X x) (hm : ∃ t, X.mg x = some (.str i t)) (hd : (x == ("__debug__" : Str)) = false := by decide) : PE X (.Name x pos) (T g E (eK (.str i))) := by
  obtain ⟨t, hm⟩ := hm
  exact PE.imp (pe_glob (v := .str i) hg hm ⟨t, rfl⟩ hd) fun σ H Q ⟨L, σd, S, r, sl, ev⟩ => ev.ok r _ (.pd (.str i))
/-- a module's constant that is data of the written part -/
theorem pd_globD {x : Str} {d : PyData} {u : Value} {v : V} (hg : Gl X x) (hm : X.mg x = some u) (rv : RelV v u) (hd : ∀ W H, Dz g.K W H v d) (hdb : (x == ("__debug__" : Str)) = false := by decide) : PE X (.Name x pos) (T g E (eK (.pd d))) :=
  PE.imp (pe_glob (v := v) hg hm rv hdb) fun σ H Q ⟨L, σd, S, r, sl, ev⟩ => ev.ok r _ (.pd (hd _ _))
/-- a def or a class of the module as a value -/
theorem pd_globF {x : Str} {a : Addr} (hg : Gl X x) (hm : X.mg x = some (.ref a)) (hgm : g.mg x = some (.ref a)) (hd : (x == ("__debug__" : Str)) = false := by decide) : PE X (.Name x pos) (T g E (eK (.glob x))) :=
  PE.imp (pe_glob (v := .ref a) hg hm rfl hd) fun σ H Q ⟨L, σd, S, r, sl, ev⟩ => ev.ok r _ (.glob hgm)

/-! ### operators -/
/-- a two-place operation by data -/
def OpD (X : Cx) (g : G) (f : Value → Value → Sem Value) (op : D → D → Sto → Out D) : Prop :=
  ∃ r : R2, OpR X f r ∧ ∀ (E : WX) L S H x y dx dy Q, RepS g L S H → Den g L H dx x → Den g L H dy y → Ev g E L H (op dx dy S) (PV g Q) → r x y H Q
def eOp (op : D → D → Sto → Out D) (a b : DM D) : DM D := mBind a fun x => mBind b fun y => fun _ S => op x y S
variable {a b c : Expr} {ma mb mc : DM D}
theorem tOp_of {op : D → D → Sto → Out D} {r : R2} {Q : VK}
    (hs : ∀ (E : WX) L S H x y dx dy Q, RepS g L S H → Den g L H dx x → Den g L H dy y → Ev g E L H (op dx dy S) (PV g Q) → r x y H Q) (h : T g E (eOp op ma mb) σ H Q) : tOp r (T g E ma) (T g E mb) σ H Q := by
  obtain ⟨L, σd, S, rp, sl, ev⟩ := h
  refine ⟨L, σd, S, rp, sl, ev.step fun dx S1 L1 H1 x1 r1 ev1 x n1 => ?_⟩
  refine ⟨L1, σd, S1, r1, sl.ext rp x1, ev1.step fun dy S2 L2 H2 x2 r2 ev2 y n2 => ?_⟩
  exact hs E L2 S2 H2 x y dx dy Q r2 (n1.ext r1 x2) n2 ev2
theorem pd_op {op : Operator} {f : D → D → Sto → Out D} (ho : OpD X g (binaryOp op) f) (ha : PE X a (T g E ma)) (hb : PE X b (T g E mb)) : PE X (.BinOp a op b pos) (T g E (eOp f ma mb)) := by
  obtain ⟨r, hr, hs⟩ := ho
  exact PE.imp (pe_op hr ha hb) fun σ H Q h => tOp_of hs h
theorem pd_cmp {op : CmpOp} {f : D → D → Sto → Out D} (ho : OpD X g (compareOp op) f) (ha : PE X a (T g E ma)) (hb : PE X b (T g E mb)) (hm : behindInMarks op b = false) : PE X (.Compare a [op] [b] pos) (T g E (eOp f ma mb)) := by
  obtain ⟨r, hr, hs⟩ := ho
  exact PE.imp (pe_cmpR hr ha hb hm) fun σ H Q h => tOp_of hs h
/-- the value as a truth -/
def asB : D → DM Bool := fun d _ S => match d with
  | .pd (.bool b) => .ok b S
  | _ => .stuck
def eTest (m : DM D) : DM Bool := mBind m asB
theorem asB_ok {d : D} {v : V} {Q : Bool → Hp → Prop} (r : RepS g L S H) (dn : Den g L H d v) (ev : Ev g E L H (asB d σd S) (PB Q)) : ∃ k, v = .bl k ∧ Q k H := by
  unfold asB at ev
  split at ev
  · rename_i b
    cases dn with
    | pd dn =>
      cases dn
      exact ⟨b, rfl, ev.ok r⟩
  · exact ev.elim
theorem pt_cmpD {op : CmpOp} {f : D → D → Sto → Out D} (ho : OpD X g (compareOp op) f) (ha : PE X a (T g E ma)) (hb : PE X b (T g E mb)) (hm : behindInMarks op b = false) : PT X (.Compare a [op] [b] pos) (TB g E (eTest (eOp f ma mb))) := by
  obtain ⟨r, hr, hs⟩ := ho
  refine PT.imp (pt_cmpR hr ha hb hm) fun σ H Q h => ?_
  obtain ⟨L, σd, S, rp, sl, ev⟩ := h
  refine tOp_of (Q := fun x H' => ∃ k, x = .bl k ∧ Q k H') hs ⟨L, σd, S, rp, sl, ev.step fun d S' L' H' x r' ev' v dn => ?_⟩
  exact asB_ok r' dn ev'
end
end DL
end
section
namespace DL
open PySem PySem.Spec PyProof.Rows L2

/-! ### views -/
def pdL : List D → Option (List PyData)
  | [] => some []
  | .pd x :: r => (pdL r).map (x :: ·)
  | _ :: _ => none
def asL (S : Sto) : D → Option (List D)
  | .pd (.list xs) => some (xs.map .pd)
  | .ref n => match S[n]? with
    | some (.lst xs) => some xs
    | _ => none
  | _ => none
def asT : D → Option (List PyData)
  | .pd (.tuple xs) => some xs
  | _ => none
def asQ (S : Sto) (d : D) : Option (List D) := match d with
  | .pd (.tuple xs) => some (xs.map .pd)
  | d => asL S d
def view (S : Sto) : D → Option PyData
  | .pd x => some x
  | .ref n => match S[n]? with
    | some (.lst xs) => (pdL xs).map .list
    | _ => none
  | .glob _ => none
@[simp] theorem pdL_map : ∀ xs : List PyData, pdL (xs.map .pd) = some xs
  | [] => rfl
  | x :: xs => by rw [List.map_cons, pdL, pdL_map xs]; rfl
section
variable {g : G} {E : WX} {L L' : List Addr} {H H' : Hp} {S S' : Sto} {σd : Sl} {σ : St} {v : V} {d : D}
theorem den_int {i : Int} (h : Den g L H (.pd (.int i)) v) : v = .int i := by cases h with | pd h => cases h; rfl
theorem den_bl {i : Bool} (h : Den g L H (.pd (.bool i)) v) : v = .bl i := by cases h with | pd h => cases h; rfl
theorem den_str {i : Str} (h : Den g L H (.pd (.str i)) v) : v = .str i := by cases h with | pd h => cases h; rfl
theorem den_non (h : Den g L H (.pd .none) v) : v = .non := by cases h with | pd h => cases h; rfl
theorem den_tup {ds : List PyData} (h : Den g L H (.pd (.tuple ds)) v) : ∃ a vs, v = .ref a ∧ SqT g.K H a vs ∧ DzAll g.K (g.wr L) H vs ds := by
  cases h with | pd h => cases h with | tup a b => exact ⟨_, _, rfl, a, b⟩
theorem den_lst {ds : List PyData} (h : Den g L H (.pd (.list ds)) v) : ∃ a vs, v = .ref a ∧ Rd H a (.lst vs) ∧ DzAll g.K (g.wr L) H vs ds := by
  cases h with | pd h => cases h with | lst n a b => exact ⟨_, _, rfl, a, b⟩
theorem DzAll.dens : ∀ {ds : List PyData} {vs : List V}, DzAll g.K (g.wr L) H vs ds → Dens g L H (ds.map .pd) vs
  | _, _, .nil => .nil
  | _, _, .cons h1 h2 => .cons (.pd h1) (DzAll.dens h2)
theorem dens_dz : ∀ {ds : List PyData} {vs : List V}, Dens g L H (ds.map .pd) vs → DzAll g.K (g.wr L) H vs ds
  | [], _, h => by cases h; exact .nil
  | d :: ds, _, h => by
    cases h with
    | cons h1 h2 => cases h1 with | pd h1 => exact .cons h1 (dens_dz h2)
theorem pdL_eq : ∀ {ds : List D} {xs : List PyData}, pdL ds = some xs → ds = xs.map .pd
  | [], xs, h => by cases h; rfl
  | .pd x :: r, xs, h => by
    rw [pdL] at h
    cases e : pdL r with
    | none => rw [e] at h; cases h
    | some ys =>
      rw [e] at h
      cases h
      rw [List.map_cons, pdL_eq e]
  | .ref n :: r, xs, h => by cases h
  | .glob n :: r, xs, h => by cases h
theorem asL_ok (r : RepS g L S H) (dn : Den g L H d v) {xs : List D} (e : asL S d = some xs) : ∃ a vs, v = .ref a ∧ Rd H a (.lst vs) ∧ Dens g L H xs vs := by
  unfold asL at e
  split at e
  · cases e
    obtain ⟨a, vs, rfl, rd, dz⟩ := den_lst dn
    exact ⟨a, vs, rfl, rd, dz.dens⟩
  · rename_i n
    cases dn with
    | ref hn =>
      split at e
      · rename_i xs' hs
        cases e
        obtain ⟨a, ha, od⟩ := r.ob hs
        rw [hn] at ha
        cases ha
        cases od with
        | lst q ds => exact ⟨_, _, rfl, .inl q, ds⟩
      · cases e
  · cases e
theorem asT_ok {xs : List PyData} (dn : Den g L H d v) (e : asT d = some xs) : ∃ a vs, v = .ref a ∧ SqT g.K H a vs ∧ DzAll g.K (g.wr L) H vs xs := by
  unfold asT at e
  split at e
  · cases e
    exact den_tup dn
  · cases e
theorem asQ_ok (r : RepS g L S H) (dn : Den g L H d v) {xs : List D} (e : asQ S d = some xs) : ∃ a vs, v = .ref a ∧ (SqL g.K H a vs ∨ SqT g.K H a vs) ∧ Dens g L H xs vs := by
  unfold asQ at e
  split at e
  · cases e
    obtain ⟨a, vs, rfl, rd, dz⟩ := den_tup dn
    exact ⟨a, vs, rfl, .inr rd, dz.dens⟩
  · obtain ⟨a, vs, rfl, rd, dz⟩ := asL_ok r dn e
    exact ⟨a, vs, rfl, .inl (.inl rd), dz⟩
mutual
theorem Dz.dp {K : PySem.W.Frag} {W : Addr → Prop} : ∀ {d : PyData} {v : V}, Dz K W H v d → d.hasDict = false → Dp K H v d
  | _, _, .non, _ => .non
  | _, _, .bl b, _ => .bl b
  | _, _, .int b, _ => .int b
  | _, _, .str b, _ => .str b
  | _, _, .lst _ r ha, h => .lst (.inl r) (DzAll.dp ha (by simpa [PyData.hasDict] using h))
  | _, _, .tup r ha, h => .tup r (DzAll.dp ha (by simpa [PyData.hasDict] using h))
  | _, _, .dct _ _ _ _, h => by simp [PyData.hasDict] at h
theorem DzAll.dp {K : PySem.W.Frag} {W : Addr → Prop} : ∀ {ds : List PyData} {vs : List V}, DzAll K W H vs ds → PyData.hasDictAll ds = false → DpAll K H vs ds
  | _, _, .nil, _ => .nil
  | _, _, .cons h1 h2, h => by
    rw [PyData.hasDictAll, Bool.or_eq_false_iff] at h
    exact .cons (Dz.dp h1 h.1) (DzAll.dp h2 h.2)
end
theorem view_dz (r : RepS g L S H) (dn : Den g L H d v) {x : PyData} (e : view S d = some x) (nd : x.hasDict = false) : Dp g.K H v x := by
  unfold view at e
  split at e
  · cases e
    cases dn with | pd h => exact h.dp nd
  · rename_i n
    cases dn with
    | ref hn =>
      split at e
      · rename_i xs hs
        cases e2 : pdL xs with
        | none => rw [e2] at e; cases e
        | some ys =>
          rw [e2] at e
          cases e
          obtain ⟨a, ha, od⟩ := r.ob hs
          rw [hn] at ha
          cases ha
          cases od with
          | lst q ds =>
            rw [pdL_eq e2] at ds
            exact .lst (.inl (.inl q)) (DzAll.dp (dens_dz ds) (by simpa [PyData.hasDict] using nd))
      · cases e
  · cases e
/-! ### ends -/
theorem fin_val {Q : VK} (r : RepS g L S H) (ev : Ev g E L H (.ok d S) (PV g Q)) (dn : Den g L H d v) : Q v H := ev.ok r v dn
theorem DzAll.new {p : Addr} {o : HO} (r : RepS g L S H) (n : H p = none) {ds : List PyData} {vs : List V} (z : DzAll g.K (g.wr L) H vs ds) : DzAll g.K (g.wr L) (upd H p o) vs ds := z.keep (kp r (Ext.new1 n))
theorem fin_tup {Q : VK} {ds : List PyData} {vs : List V} (r : RepS g L S H) (ev : Ev g E L H (.ok (.tup ds) S) (PV g Q)) (z : DzAll g.K (g.wr L) H vs ds) : ∀ p, H p = none → Q (.ref p) (upd H p (.tup vs)) := fun p n =>
  ev L _ (Ext.new1 n) (r.new1 n) _ (.pd (.tup (.inl (.inl upd_same)) (z.new r n)))
theorem fin_lst {Q : VK} {ds : List PyData} {vs : List V} (r : RepS g L S H) (ev : Ev g E L H (.ok (.lst ds) S) (PV g Q)) (z : DzAll g.K (g.wr L) H vs ds) : ∀ p, H p = none → Q (.ref p) (upd H p (.lst vs)) := fun p n =>
  ev L _ (Ext.new1 n) (r.new1 n) _ (.pd (.lst (r.free n) (.inl upd_same) (z.new r n)))
/-- a new object of the store -/
theorem fin_lstM {Q : VK} {ds : List D} {vs : List V} (r : RepS g L S H) (ev : Ev g E L H (.ok (.ref S.length) (S ++ [.lst ds])) (PV g Q)) (z : Dens g L H ds vs) : ∀ p, H p = none → Q (.ref p) (upd H p (.lst vs)) := fun p n => by
  have hl : S.length = L.length := Paired.len r.obs
  exact ev _ _ (Ext.newM n) (r.newM n (.lst upd_same (z.ext r (Ext.newM n))) (r.h0 n)) _ (.ref (by rw [hl]; simp))
theorem Dens.app {ds es : List D} {vs ws : List V} (a : Dens g L H ds vs) (b : Dens g L H es ws) : Dens g L H (ds ++ es) (vs ++ ws) := Paired.app a b
theorem DzAll.app {K : PySem.W.Frag} {W : Addr → Prop} : ∀ {ds es : List PyData} {vs ws : List V}, DzAll K W H vs ds → DzAll K W H ws es → DzAll K W H (vs ++ ws) (ds ++ es)
  | _, _, _, _, .nil, h => h
  | _, _, _, _, .cons r t, h => .cons r (DzAll.app t h)
theorem DzAll.len {K : PySem.W.Frag} {W : Addr → Prop} : ∀ {ds : List PyData} {vs : List V}, DzAll K W H vs ds → vs.length = ds.length
  | _, _, .nil => rfl
  | _, _, .cons _ t => by rw [List.length_cons, List.length_cons, DzAll.len t]
theorem DzAll.get {K : PySem.W.Frag} {W : Addr → Prop} : ∀ {ds : List PyData} {vs : List V}, DzAll K W H vs ds → ∀ {i : Nat} {d : PyData}, ds[i]? = some d → ∃ v, vs[i]? = some v ∧ Dz K W H v d
  | _, _, .nil, i, _, h => by simp at h
  | _, _, .cons r t, 0, _, h => by
    simp at h; subst h
    exact ⟨_, by simp, r⟩
  | _, _, .cons r t, i + 1, _, h => by
    obtain ⟨b, e, f⟩ := DzAll.get t (i := i) (by simpa using h)
    exact ⟨b, by simpa using e, f⟩
theorem DzAll.drop {K : PySem.W.Frag} {W : Addr → Prop} : ∀ {ds : List PyData} {vs : List V} (n : Nat), DzAll K W H vs ds → DzAll K W H (vs.drop n) (ds.drop n)
  | _, _, 0, h => h
  | _, _, _ + 1, .nil => .nil
  | _, _, n + 1, .cons _ t => DzAll.drop n t
theorem DzAll.take {K : PySem.W.Frag} {W : Addr → Prop} : ∀ {ds : List PyData} {vs : List V} (n : Nat), DzAll K W H vs ds → DzAll K W H (vs.take n) (ds.take n)
  | _, _, 0, _ => .nil
  | _, _, _ + 1, .nil => .nil
  | _, _, n + 1, .cons r t => .cons r (DzAll.take n t)
theorem DzAll.rev {K : PySem.W.Frag} {W : Addr → Prop} : ∀ {ds : List PyData} {vs : List V}, DzAll K W H vs ds → DzAll K W H vs.reverse ds.reverse
  | _, _, .nil => .nil
  | _, _, .cons r t => by rw [List.reverse_cons, List.reverse_cons]; exact (DzAll.rev t).app (.cons r .nil)
theorem DzAll.rep {K : PySem.W.Frag} {W : Addr → Prop} {ds : List PyData} {vs : List V} (h : DzAll K W H vs ds) : ∀ k : Nat, DzAll K W H (List.replicate k vs).flatten (List.replicate k ds).flatten
  | 0 => .nil
  | k + 1 => by rw [List.replicate_succ, List.replicate_succ, List.flatten_cons, List.flatten_cons]; exact h.app (DzAll.rep h k)

/-! ### operations by values -/
/-- a two-place operation, by data -/
def OpX (X : Cx) (g : G) (f : Value → Value → Sem Value) (op : D → D → Sto → Out D) : Prop :=
  ∀ E : WX, OpR X f (fun x y H Q => ∃ L S dx dy, RepS g L S H ∧ Den g L H dx x ∧ Den g L H dy y ∧ Ev g E L H (op dx dy S) (PV g Q))
theorem OpX.has {X : Cx} {f : Value → Value → Sem Value} {op : D → D → Sto → Out D} (h : OpX X g f op) (E : WX) : ∃ r : R2, OpR X f r ∧ ∀ L S H x y dx dy Q, RepS g L S H → Den g L H dx x → Den g L H dy y → Ev g E L H (op dx dy S) (PV g Q) → r x y H Q :=
  ⟨_, h E, fun L S H x y dx dy Q r a b e => ⟨L, S, dx, dy, r, a, b, e⟩⟩
variable {X : Cx} {a b c : Expr} {ma mb mc : DM D} {pos : Pos}
theorem tOpX_of {op : D → D → Sto → Out D} {r : R2} {Q : VK}
    (hs : ∀ L S H x y dx dy Q, RepS g L S H → Den g L H dx x → Den g L H dy y → Ev g E L H (op dx dy S) (PV g Q) → r x y H Q) (h : T g E (eOp op ma mb) σ H Q) : tOp r (T g E ma) (T g E mb) σ H Q := by
  obtain ⟨L, σd, S, rp, sl, ev⟩ := h
  refine ⟨L, σd, S, rp, sl, ev.step fun dx S1 L1 H1 x1 r1 ev1 x n1 => ?_⟩
  refine ⟨L1, σd, S1, r1, sl.ext rp x1, ev1.step fun dy S2 L2 H2 x2 r2 ev2 y n2 => ?_⟩
  exact hs L2 S2 H2 x y dx dy Q r2 (n1.ext r1 x2) n2 ev2
theorem px_op {op : Operator} {f : D → D → Sto → Out D} (ho : OpX X g (binaryOp op) f) (ha : PE X a (T g E ma)) (hb : PE X b (T g E mb)) : PE X (.BinOp a op b pos) (T g E (eOp f ma mb)) := by
  obtain ⟨r, hr, hs⟩ := OpX.has ho E
  exact PE.imp (pe_op hr ha hb) fun σ H Q h => tOpX_of hs h
theorem px_cmp {op : CmpOp} {f : D → D → Sto → Out D} (ho : OpX X g (compareOp op) f) (ha : PE X a (T g E ma)) (hb : PE X b (T g E mb)) (hm : behindInMarks op b = false) : PE X (.Compare a [op] [b] pos) (T g E (eOp f ma mb)) := by
  obtain ⟨r, hr, hs⟩ := OpX.has ho E
  exact PE.imp (pe_cmpR hr ha hb hm) fun σ H Q h => tOpX_of hs h
theorem pt_cmpX {op : CmpOp} {f : D → D → Sto → Out D} (ho : OpX X g (compareOp op) f) (ha : PE X a (T g E ma)) (hb : PE X b (T g E mb)) (hm : behindInMarks op b = false) : PT X (.Compare a [op] [b] pos) (TB g E (eTest (eOp f ma mb))) := by
  obtain ⟨r, hr, hs⟩ := OpX.has ho E
  refine PT.imp (pt_cmpR hr ha hb hm) fun σ H Q h => ?_
  obtain ⟨L, σd, S, rp, sl, ev⟩ := h
  refine tOpX_of (Q := fun x H' => ∃ k, x = .bl k ∧ Q k H') hs ⟨L, σd, S, rp, sl, ev.step fun d S' L' H' x r' ev' v dn => ?_⟩
  exact asB_ok r' dn ev'

/-! lists that are read -/
theorem _root_.L2.Inv.lstR {pins : List (Addr × Obj)} {σ : L2.St} {H : Hp} {s : Shared} {l : Addr} {xs : List V} (I : Inv X pins σ H s) (h : Rd H l (.lst xs)) : xs.length ≤ sizeLine ∧ ∃ (its : List Value) (n : Nat), Vals xs its ∧ xs.length = its.length ∧ s.heap.get? l = some { cls := .type "list", data := .seq its.toArray n } := by
  obtain ⟨z, its, n, r, e⟩ := h.ok I.hok
  exact ⟨z, its, n, r, r.length, e⟩
def rCatR : R2 := fun x y H Q => ∃ l b xs zs, x = .ref l ∧ y = .ref b ∧ Rd H l (.lst xs) ∧ Rd H b (.lst zs) ∧ xs.length + zs.length ≤ sizeLine ∧ ∀ p, H p = none → Q (.ref p) (upd H p (.lst (xs ++ zs)))
theorem op_catR : OpR X (binaryOp .Add) rCatR := by
  intro pins s σ H x y v u Q I rx ry h
  obtain ⟨l, b, xs, zs, rfl, rfl, hH, hB, hz, q⟩ := h
  cases rx
  cases ry
  obtain ⟨z, its, n, r, hl, e⟩ := I.lstR hH
  obtain ⟨z2, its2, n2, r2, hl2, e2⟩ := I.lstR hB
  refine PySem.P.add_list e e2 ?_ (by rw [List.size_toArray, List.size_toArray]; omega)
  have ea : its.toArray ++ its2.toArray = (its ++ its2).toArray := by simp
  rw [ea]
  exact ⟨.ref _, _, I.lnew (t' := s.toks) (r.append r2) (by rw [List.length_append]; omega), rfl, q _ I.fresh⟩
def rRepR : R2 := fun x y H Q => ∃ l k xs, x = .ref l ∧ y = .int k ∧ Rd H l (.lst xs) ∧ -(2 ^ 63) ≤ k ∧ k < 2 ^ 63 ∧ xs.length * k.toNat ≤ sizeLine ∧
  ∀ p, H p = none → Q (.ref p) (upd H p (.lst (List.replicate k.toNat xs).flatten))
theorem op_repR : OpR X (binaryOp .Mult) rRepR := by
  intro pins s σ H x y v u Q I rx ry h
  obtain ⟨l, k, xs, rfl, rfl, hH, h1, h2, hz, q⟩ := h
  cases rx
  obtain ⟨t, rfl⟩ := ry
  obtain ⟨z, its, n, r, hl, e⟩ := I.lstR hH
  have hlen : its.toArray.size * k.toNat ≤ sizeLine := by rw [List.size_toArray, ← hl]; exact hz
  have hcap : ¬ its.toArray.size * k.toNat > (2 ^ 63 - 1) / 8 := by
    have : (sizeLine : Nat) ≤ (2 ^ 63 - 1) / 8 := by decide
    omega
  have hfit : ¬ (!Builtin.List.listFitsIndex k) = true := by
    rw [fitsIndex_both h1 h2]
    exact Bool.false_ne_true
  have hlong : ¬ Builtin.List.listTooLong (its.toArray.size * k.toNat) = true := by
    rw [notLongL hlen]
    exact Bool.false_ne_true
  have hnew : List.foldl (fun x1 x2 => x1 ++ x2) #[] (List.replicate (if its.toArray.isEmpty = true then 0 else k.toNat) its.toArray) = (List.replicate k.toNat its).flatten.toArray := by
    have f0 : ∀ m : Nat, List.foldl (fun x1 x2 => x1 ++ x2) #[] (List.replicate m its.toArray) = (List.replicate m its).flatten.toArray := fun m => by
      have := foldl_rep its m []
      rw [List.nil_append] at this
      exact this
    rw [f0]
    cases its with
    | nil => simp
    | cons a r' => rw [if_neg (by simp)]
  refine wpAny_binaryOp_repeat_ref (T := "list") (U := "int") (by decide) ⟨_, e, rfl⟩ (fun s' => typeIs_int s' k t) noFill_list_mul F.fills_int_mul F.slot_int_rmul repeat_list F.slot_int_index.lookup
    (call_meets F.slot_int_rmul (typeIs_int s k t) F.entry_int_rmul (F.args_int_rmul_2 _ _) (int___rmul___int_list k t l its.toArray n)
      ⟨e, rfl, ⟨_, e, rfl⟩, call_meets F.slot_list_mul ⟨_, e, rfl⟩ F.entry_list_mul (F.args_list_mul_2 _ _) (AutoListH.list___mul___list_int_3 l its.toArray n k t hfit hcap hlong) ⟨e, ?_⟩⟩)
  rw [hnew]
  exact ⟨.ref _, _, I.lnew (t' := s.toks) (r.rep k.toNat) (by rw [PyProof.Rows.lm_len_rep_flat, Nat.mul_comm]; exact hz), rfl, q _ I.fresh⟩
end
end DL
end
section
namespace DL
open PySem PySem.Spec PyProof.Rows L2

/-! ### what the operations come to -/
def opAdd : D → D → Sto → Out D := fun x y S => match x, y with
  | .pd (.int i), .pd (.int j) => .ok (.int (i + j)) S
  | .pd (.str i), .pd (.str j) => if i.length + j.length ≤ sizeLine then .ok (.str (i ++ j)) S else .stuck
  | .pd (.tuple xs), .pd (.tuple ys) => if xs.length + ys.length ≤ sizeLine then .ok (.tup (xs ++ ys)) S else .stuck
  | x, y => match asL S x, asL S y with
    | some xs, some ys => match pdL (xs ++ ys) with
      | some zs => if zs.length ≤ sizeLine then .ok (.lst zs) S else .stuck
      | none => .stuck
    | _, _ => .stuck
def opSub : D → D → Sto → Out D := fun x y S => match x, y with
  | .pd (.int i), .pd (.int j) => .ok (.int (i - j)) S
  | _, _ => .stuck
def opMul : D → D → Sto → Out D := fun x y S => match x, y with
  | .pd (.int i), .pd (.int j) => if i.natAbs < 2 ^ 64 ∨ j.natAbs < 2 ^ 64 then .ok (.int (i * j)) S else .stuck
  | .pd (.tuple xs), .pd (.int k) => if xs ≠ [] ∧ 2 ≤ k ∧ k ≤ 1000 ∧ xs.length ≤ 1000 then .ok (.tup (List.replicate k.toNat xs).flatten) S else .stuck
  | x, .pd (.int k) => match asL S x with
    | some xs => match pdL xs with
      | some zs => if -(2 ^ 63) ≤ k ∧ k < 2 ^ 63 ∧ zs.length * k.toNat ≤ sizeLine then .ok (.lst (List.replicate k.toNat zs).flatten) S else .stuck
      | none => .stuck
    | none => .stuck
  | _, _ => .stuck
def opMod : D → D → Sto → Out D := fun x y S => match x, y with
  | .pd (.int i), .pd (.int j) => if 0 < j then .ok (.int (i % j)) S else .stuck
  | _, _ => .stuck
def opDiv : D → D → Sto → Out D := fun x y S => match x, y with
  | .pd (.int i), .pd (.int j) => if 0 < j ∧ j < 1073741824 then .ok (.int (i / j)) S else .stuck
  | _, _ => .stuck
def opPow : D → D → Sto → Out D := fun x y S => match x, y with
  | .pd (.int i), .pd (.int j) => if 0 ≤ j ∧ j ≤ 1000 ∧ i.natAbs < 2 ^ 64 then .ok (.int (i ^ j.toNat)) S else .stuck
  | _, _ => .stuck
section
variable {g : G} {E : WX} {L L' : List Addr} {H H' : Hp} {S S' : Sto} {σd : Sl} {σ : St} {v : V} {d : D}
variable {X : Cx}
theorem ox_add (hk : X.K = g.K) : OpX X g (binaryOp .Add) opAdd := by
  intro E pins s σ H x y v u Q I rx ry h
  obtain ⟨L, S, dx, dy, r, nx, ny, ev⟩ := h
  unfold opAdd at ev
  split at ev
  · rename_i i j
    cases den_int nx; cases den_int ny
    exact op_add pins s σ H _ _ v u Q I rx ry ⟨i, j, rfl, rfl, fin_val r ev (.pd (.int _))⟩
  · rename_i i j
    split at ev
    · rename_i hz
      cases den_str nx; cases den_str ny
      exact op_add_str pins s σ H _ _ v u Q I rx ry ⟨i, j, rfl, rfl, hz, fin_val r ev (.pd (.str _))⟩
    · exact ev.elim
  · rename_i xs ys
    split at ev
    · rename_i hz
      obtain ⟨a, vs, rfl, ha, za⟩ := den_tup nx
      obtain ⟨b, ws, rfl, hb, zb⟩ := den_tup ny
      rw [← hk] at ha hb
      refine op_catA pins s σ H _ _ v u Q I rx ry ⟨a, b, vs, ws, rfl, rfl, ha, hb, by rw [za.len, zb.len]; exact hz, fun e => ?_, fun e e2 => ?_, fun _ _ => fin_tup r ev (za.app zb)⟩
      · have : xs = [] := List.length_eq_zero_iff.mp (by rw [← za.len, e]; rfl)
        subst this
        exact fin_val r ev ny
      · have : ys = [] := List.length_eq_zero_iff.mp (by rw [← zb.len, e2]; rfl)
        subst this
        rw [List.append_nil] at ev
        exact fin_val r ev nx
    · exact ev.elim
  · split at ev
    · rename_i xs ys ex ey
      obtain ⟨a, vs, rfl, ha, za⟩ := asL_ok r nx ex
      obtain ⟨b, ws, rfl, hb, zb⟩ := asL_ok r ny ey
      split at ev
      · rename_i zs ez
        split at ev
        · rename_i hz
          have z2 := dens_dz (pdL_eq ez ▸ Dens.app za zb)
          refine op_catR pins s σ H _ _ v u Q I rx ry ⟨a, b, vs, ws, rfl, rfl, ha, hb, ?_, fin_lst r ev z2⟩
          rw [← List.length_append, z2.len]; exact hz
        · exact ev.elim
      · exact ev.elim
    · exact ev.elim
theorem ox_sub : OpX X g (binaryOp .Sub) opSub := by
  intro E pins s σ H x y v u Q I rx ry h
  obtain ⟨L, S, dx, dy, r, nx, ny, ev⟩ := h
  unfold opSub at ev
  split at ev
  · rename_i i j
    cases den_int nx; cases den_int ny
    exact op_sub pins s σ H _ _ v u Q I rx ry ⟨i, j, rfl, rfl, fin_val r ev (.pd (.int _))⟩
  · exact ev.elim
theorem ox_mul (hk : X.K = g.K) : OpX X g (binaryOp .Mult) opMul := by
  intro E pins s σ H x y v u Q I rx ry h
  obtain ⟨L, S, dx, dy, r, nx, ny, ev⟩ := h
  unfold opMul at ev
  split at ev
  · rename_i i j
    split at ev
    · rename_i hz
      cases den_int nx; cases den_int ny
      exact op_mul pins s σ H _ _ v u Q I rx ry ⟨i, j, rfl, rfl, hz.imp (fun h => by omega) (fun h => by omega), fin_val r ev (.pd (.int _))⟩
    · exact ev.elim
  · rename_i xs k
    split at ev
    · rename_i hz
      obtain ⟨a, vs, rfl, ha, za⟩ := den_tup nx
      cases den_int ny
      rw [← hk] at ha
      refine op_repT pins s σ H _ _ v u Q I rx ry ⟨a, k, vs, rfl, rfl, ha, fun e => hz.1 ?_, hz.2.1, hz.2.2.1, by rw [za.len]; exact hz.2.2.2, fin_tup r ev (za.rep _)⟩
      exact List.length_eq_zero_iff.mp (by rw [← za.len, e]; rfl)
    · exact ev.elim
  · rename_i k _ _
    split at ev
    · rename_i xs ex
      obtain ⟨a, vs, rfl, ha, za⟩ := asL_ok r nx ex
      cases den_int ny
      split at ev
      · rename_i zs ez
        split at ev
        · rename_i hz
          have z2 := dens_dz (pdL_eq ez ▸ za)
          exact op_repR pins s σ H _ _ v u Q I rx ry ⟨a, k, vs, rfl, rfl, ha, hz.1, hz.2.1, by rw [z2.len]; exact hz.2.2, fin_lst r ev (z2.rep _)⟩
        · exact ev.elim
      · exact ev.elim
    · exact ev.elim
  · exact ev.elim
theorem ox_mod : OpX X g (binaryOp .Mod) opMod := by
  intro E pins s σ H x y v u Q I rx ry h
  obtain ⟨L, S, dx, dy, r, nx, ny, ev⟩ := h
  unfold opMod at ev
  split at ev
  · rename_i i j
    split at ev
    · rename_i hz
      cases den_int nx; cases den_int ny
      exact op_mod pins s σ H _ _ v u Q I rx ry ⟨i, j, rfl, rfl, hz, fin_val r ev (.pd (.int _))⟩
    · exact ev.elim
  · exact ev.elim
theorem ox_div : OpX X g (binaryOp .FloorDiv) opDiv := by
  intro E pins s σ H x y v u Q I rx ry h
  obtain ⟨L, S, dx, dy, r, nx, ny, ev⟩ := h
  unfold opDiv at ev
  split at ev
  · rename_i i j
    split at ev
    · rename_i hz
      cases den_int nx; cases den_int ny
      exact op_fdiv pins s σ H _ _ v u Q I rx ry ⟨i, j, rfl, rfl, hz, fin_val r ev (.pd (.int _))⟩
    · exact ev.elim
  · exact ev.elim
theorem ox_pow : OpX X g (binaryOp .Pow) opPow := by
  intro E pins s σ H x y v u Q I rx ry h
  obtain ⟨L, S, dx, dy, r, nx, ny, ev⟩ := h
  unfold opPow at ev
  split at ev
  · rename_i i j
    split at ev
    · rename_i hz
      cases den_int nx; cases den_int ny
      exact op_pow pins s σ H _ _ v u Q I rx ry ⟨i, j, rfl, rfl, ⟨hz.1, by omega, hz.2.2⟩, fin_val r ev (.pd (.int _))⟩
    · exact ev.elim
  · exact ev.elim

/-! comparisons -/
def okEq (d : PyData) : Bool := SeqAt.shaped d
def opEq0 (ne : Bool) : D → D → Sto → Out D := fun x y S => match view S x, view S y with
  | some a, some b => if okEq a && okEq b then .ok (.bl (PyData.eqv a b ^^ ne)) S else .stuck
  | _, _ => .stuck
theorem okEq_nd {d : PyData} (h : okEq d = true) : d.hasDict = false := PyData.hasDict_of_canLay d (SeqAt.canLay_of_shaped h)
theorem ox_eq0 (hk : X.K = g.K) (hu : X.A.units + 64 < cLine) : OpX X g (compareOp .Eq) (opEq0 false) := by
  intro E pins s σ H x y v u Q I rx ry h
  obtain ⟨L, S, dx, dy, r, nx, ny, ev⟩ := h
  unfold opEq0 at ev
  split at ev
  · rename_i a b ea eb
    split at ev
    · rename_i hz
      rw [Bool.and_eq_true] at hz
      have h1 := view_dz r nx ea (okEq_nd hz.1)
      have h2 := view_dz r ny eb (okEq_nd hz.2)
      rw [← hk] at h1 h2
      exact op_eqD hu pins s σ H _ _ v u Q I rx ry ⟨a, b, h1, h2, hz.1, hz.2, fin_val r ev (by rw [Bool.xor_false]; exact .pd (.bl _))⟩
    · exact ev.elim
  · exact ev.elim
theorem ox_ne0 (hk : X.K = g.K) (hu : X.A.units + 64 < cLine) : OpX X g (compareOp .NotEq) (opEq0 true) := by
  intro E pins s σ H x y v u Q I rx ry h
  obtain ⟨L, S, dx, dy, r, nx, ny, ev⟩ := h
  unfold opEq0 at ev
  split at ev
  · rename_i a b ea eb
    split at ev
    · rename_i hz
      rw [Bool.and_eq_true] at hz
      have h1 := view_dz r nx ea (okEq_nd hz.1)
      have h2 := view_dz r ny eb (okEq_nd hz.2)
      rw [← hk] at h1 h2
      exact op_neD hu pins s σ H _ _ v u Q I rx ry ⟨a, b, h1, h2, hz.1, hz.2, fin_val r ev (by rw [Bool.xor_true]; exact .pd (.bl _))⟩
    · exact ev.elim
  · exact ev.elim
/-- texts by themselves -/
def opEq (ne : Bool) : D → D → Sto → Out D := fun x y S => match x, y with
  | .pd (.str i), .pd (.str j) => .ok (.bl (decide (i = j) ^^ ne)) S
  | x, y => opEq0 ne x y S
theorem ox_eq (hk : X.K = g.K) (hu : X.A.units + 64 < cLine) : OpX X g (compareOp .Eq) (opEq false) := by
  intro E pins s σ H x y v u Q I rx ry h
  obtain ⟨L, S, dx, dy, r, nx, ny, ev⟩ := h
  unfold opEq at ev
  split at ev
  · rename_i i j
    cases den_str nx; cases den_str ny
    refine op_eq pins s σ H _ _ v u Q I rx ry ⟨rfl, ?_⟩
    have e : decide (V.str i = V.str j) = decide (i = j) := by simp
    rw [e]
    exact fin_val r ev (by rw [Bool.xor_false]; exact .pd (.bl _))
  · exact ox_eq0 hk hu E pins s σ H x y v u Q I rx ry ⟨L, S, _, _, r, nx, ny, ev⟩
theorem ox_ne (hk : X.K = g.K) (hu : X.A.units + 64 < cLine) : OpX X g (compareOp .NotEq) (opEq true) := by
  intro E pins s σ H x y v u Q I rx ry h
  obtain ⟨L, S, dx, dy, r, nx, ny, ev⟩ := h
  unfold opEq at ev
  split at ev
  · rename_i i j
    cases den_str nx; cases den_str ny
    refine op_ne pins s σ H _ _ v u Q I rx ry ⟨rfl, ?_⟩
    have e : decide (V.str i = V.str j) = decide (i = j) := by simp
    rw [e]
    exact fin_val r ev (by rw [Bool.xor_true]; exact .pd (.bl _))
  · exact ox_ne0 hk hu E pins s σ H x y v u Q I rx ry ⟨L, S, _, _, r, nx, ny, ev⟩
/-- two ints, or (for <) two tuples of ints -/
def opCmpI (p : Int → Int → Bool) : D → D → Sto → Out D := fun x y S => match x, y with
  | .pd (.int i), .pd (.int j) => .ok (.bl (p i j)) S
  | _, _ => .stuck
theorem ox_le : OpX X g (compareOp .LtE) (opCmpI fun i j => decide (i ≤ j)) := by
  intro E pins s σ H x y v u Q I rx ry h
  obtain ⟨L, S, dx, dy, r, nx, ny, ev⟩ := h
  unfold opCmpI at ev
  split at ev
  · rename_i i j
    cases den_int nx; cases den_int ny
    exact op_le pins s σ H _ _ v u Q I rx ry ⟨i, j, rfl, rfl, fin_val r ev (.pd (.bl _))⟩
  · exact ev.elim
theorem ox_gt : OpX X g (compareOp .Gt) (opCmpI fun i j => decide (j < i)) := by
  intro E pins s σ H x y v u Q I rx ry h
  obtain ⟨L, S, dx, dy, r, nx, ny, ev⟩ := h
  unfold opCmpI at ev
  split at ev
  · rename_i i j
    cases den_int nx; cases den_int ny
    exact op_gt pins s σ H _ _ v u Q I rx ry ⟨i, j, rfl, rfl, fin_val r ev (.pd (.bl _))⟩
  · exact ev.elim
theorem ox_ge : OpX X g (compareOp .GtE) (opCmpI fun i j => decide (j ≤ i)) := by
  intro E pins s σ H x y v u Q I rx ry h
  obtain ⟨L, S, dx, dy, r, nx, ny, ev⟩ := h
  unfold opCmpI at ev
  split at ev
  · rename_i i j
    cases den_int nx; cases den_int ny
    exact op_ge pins s σ H _ _ v u Q I rx ry ⟨i, j, rfl, rfl, fin_val r ev (.pd (.bl _))⟩
  · exact ev.elim
def intsL : List PyData → Option (List Int)
  | [] => some []
  | .int i :: r => (intsL r).map (i :: ·)
  | _ :: _ => none
theorem intsL_eq : ∀ {ds : List PyData} {xs : List Int}, intsL ds = some xs → ds = xs.map .int
  | [], xs, h => by cases h; rfl
  | .int x :: r, xs, h => by
    rw [intsL] at h
    cases e : intsL r with
    | none => rw [e] at h; cases h
    | some ys => rw [e] at h; cases h; rw [List.map_cons, intsL_eq e]
  | .none :: r, xs, h => by cases h
  | .bool _ :: r, xs, h => by cases h
  | .str _ :: r, xs, h => by cases h
  | .list _ :: r, xs, h => by cases h
  | .tuple _ :: r, xs, h => by cases h
  | .dict _ :: r, xs, h => by cases h
@[simp] theorem intsL_map : ∀ xs : List Int, intsL (xs.map .int) = some xs
  | [] => rfl
  | x :: xs => by rw [List.map_cons, intsL, intsL_map xs]; rfl
theorem DzAll.ints {K : PySem.W.Frag} {W : Addr → Prop} : ∀ {xs : List Int} {vs : List V}, DzAll K W H vs (xs.map .int) → vs = xs.map V.int
  | [], _, h => by cases h; rfl
  | x :: xs, _, h => by
    cases h with
    | cons h1 h2 => cases h1; rw [DzAll.ints h2]; rfl
def opLt : D → D → Sto → Out D := fun x y S => match x, y with
  | .pd (.int i), .pd (.int j) => .ok (.bl (decide (i < j))) S
  | .pd (.tuple xs), .pd (.tuple ys) => match intsL xs, intsL ys with
    | some ns, some ms => .ok (.bl (HT.lexLt ns ms)) S
    | _, _ => .stuck
  | _, _ => .stuck
theorem ox_lt (hk : X.K = g.K) (hu : X.A.units + 64 < cLine) : OpX X g (compareOp .Lt) opLt := by
  intro E pins s σ H x y v u Q I rx ry h
  obtain ⟨L, S, dx, dy, r, nx, ny, ev⟩ := h
  unfold opLt at ev
  split at ev
  · rename_i i j
    cases den_int nx; cases den_int ny
    exact op_lt pins s σ H _ _ v u Q I rx ry ⟨i, j, rfl, rfl, fin_val r ev (.pd (.bl _))⟩
  · split at ev
    · rename_i xs ys _ _ ns ms en em
      obtain ⟨a, vs, rfl, ha, za⟩ := den_tup nx
      obtain ⟨b, ws, rfl, hb, zb⟩ := den_tup ny
      rw [← hk] at ha hb
      rw [intsL_eq en] at za
      rw [intsL_eq em] at zb
      rw [za.ints] at ha
      rw [zb.ints] at hb
      exact op_ltT (by omega) pins s σ H _ _ v u Q I rx ry ⟨a, b, ns, ms, rfl, rfl, ha, hb, fin_val r ev (.pd (.bl _))⟩
    · exact ev.elim
  · exact ev.elim
/-- is, is not: of None, of truths -/
def opIs (ne : Bool) : D → D → Sto → Out D := fun x y S => match y with
  | .pd .none => match x with
    | .pd .none => .ok (.bl (!ne)) S
    | _ => .ok (.bl ne) S
  | .pd (.bool b) => match x with
    | .pd (.bool a) => .ok (.bl (decide (a = b) ^^ ne)) S
    | _ => .stuck
  | _ => .stuck
theorem den_notnon (h : Den g L H d v) (hn : ∀ (h : d = .pd .none), False) : v ≠ .non := by
  cases h with
  | pd h =>
    cases h with
    | non => exact (hn rfl).elim
    | _ => intro z; cases z
  | _ => intro z; cases z
theorem ox_is : OpX X g (compareOp .Is) (opIs false) := by
  intro E pins s σ H x y v u Q I rx ry h
  obtain ⟨L, S, dx, dy, r, nx, ny, ev⟩ := h
  unfold opIs at ev
  split at ev
  · cases den_non ny
    split at ev
    · cases den_non nx
      exact op_isN pins s σ H _ _ v u Q I rx ry ⟨rfl, fin_val r ev (.pd (.bl _))⟩
    · rename_i hn
      have hx := den_notnon nx hn
      exact op_isN pins s σ H _ _ v u Q I rx ry ⟨rfl, fin_val r ev (by rw [decide_eq_false hx]; exact .pd (.bl _))⟩
  · split at ev
    · rename_i b _ a
      cases den_bl nx; cases den_bl ny
      exact op_isBl pins s σ H _ _ v u Q I rx ry ⟨a, b, rfl, rfl, fin_val r ev (by rw [Bool.xor_false]; exact .pd (.bl _))⟩
    · exact ev.elim
  · exact ev.elim
theorem ox_isnot : OpX X g (compareOp .IsNot) (opIs true) := by
  intro E pins s σ H x y v u Q I rx ry h
  obtain ⟨L, S, dx, dy, r, nx, ny, ev⟩ := h
  unfold opIs at ev
  split at ev
  · cases den_non ny
    split at ev
    · cases den_non nx
      exact op_notN pins s σ H _ _ v u Q I rx ry ⟨rfl, fin_val r ev (.pd (.bl _))⟩
    · rename_i hn
      have hx := den_notnon nx hn
      exact op_notN pins s σ H _ _ v u Q I rx ry ⟨rfl, fin_val r ev (by rw [decide_eq_false hx]; exact .pd (.bl _))⟩
  · split at ev
    · rename_i b _ a
      cases den_bl nx; cases den_bl ny
      exact op_notBl pins s σ H _ _ v u Q I rx ry ⟨a, b, rfl, rfl, fin_val r ev (by rw [Bool.xor_true]; exact .pd (.bl _))⟩
    · exact ev.elim
  · exact ev.elim
/-- in, not in: of a list, of a tuple -/
def opIn (ne : Bool) : D → D → Sto → Out D := fun x y S => match x with
  | .pd a => match y with
    | .pd (.tuple ds) => if okEq a && okEq (.tuple ds) then .ok (.bl ((ds.any fun z => PyData.eqv z a) ^^ ne)) S else .stuck
    | y => match view S y with
      | some (.list ds) => if okEq a && okEq (.list ds) then .ok (.bl ((ds.any fun z => PyData.eqv z a) ^^ ne)) S else .stuck
      | _ => .stuck
  | _ => .stuck
theorem room_in' {A : Around} {d : PyData} {xs : List PyData} (h : okEq d = true) (hu : A.units + 65 < cLine) : A.units + 1 + min (PyData.depthAll xs) d.depth < cLine := by
  have h1 := SeqAt.depth_of_shaped h
  have h2 : min (PyData.depthAll xs) d.depth ≤ d.depth := Nat.min_le_right _ _
  omega
theorem ox_in (hk : X.K = g.K) (hu : X.A.units + 65 < cLine) : OpX X g (compareOp .In) (opIn false) := by
  intro E pins s σ H x y v u Q I rx ry h
  obtain ⟨L, S, dx, dy, r, nx, ny, ev⟩ := h
  unfold opIn at ev
  split at ev
  · split at ev
    · rename_i a _ ds
      split at ev
      · rename_i hz
        rw [Bool.and_eq_true] at hz
        have h1 := view_dz r nx (x := a) rfl (okEq_nd hz.1)
        have h2 := view_dz r ny (x := .tuple ds) rfl (okEq_nd hz.2)
        rw [← hk] at h1 h2
        obtain ⟨as, r1⟩ := Dp.reads I _ x v h1 rx
        obtain ⟨bs, r2⟩ := Dp.reads I _ y u h2 ry
        exact SeqAt.in_tuple_reads r2 r1 (SeqAt.canLay_of_shaped hz.2) (SeqAt.canLay_of_shaped hz.1) (room_in' hz.1 hu) ⟨.bl _, H, I, rfl, fin_val r ev (by rw [Bool.xor_false]; exact .pd (.bl _))⟩
      · exact ev.elim
    · split at ev
      · rename_i a _ _ _ ds e
        split at ev
        · rename_i hz
          rw [Bool.and_eq_true] at hz
          have h1 := view_dz r nx (x := a) rfl (okEq_nd hz.1)
          have h2 := view_dz r ny e (okEq_nd hz.2)
          rw [← hk] at h1 h2
          obtain ⟨as, r1⟩ := Dp.reads I _ x v h1 rx
          obtain ⟨bs, r2⟩ := Dp.reads I _ y u h2 ry
          exact SeqAt.in_list_reads r2 r1 (SeqAt.canLay_of_shaped hz.2) (SeqAt.canLay_of_shaped hz.1) (room_in' hz.1 hu) ⟨.bl _, H, I, rfl, fin_val r ev (by rw [Bool.xor_false]; exact .pd (.bl _))⟩
        · exact ev.elim
      · exact ev.elim
  · exact ev.elim
theorem ox_notin (hk : X.K = g.K) (hu : X.A.units + 65 < cLine) : OpX X g (compareOp .NotIn) (opIn true) := by
  intro E pins s σ H x y v u Q I rx ry h
  obtain ⟨L, S, dx, dy, r, nx, ny, ev⟩ := h
  unfold opIn at ev
  split at ev
  · split at ev
    · rename_i a _ ds
      split at ev
      · rename_i hz
        rw [Bool.and_eq_true] at hz
        have h1 := view_dz r nx (x := a) rfl (okEq_nd hz.1)
        have h2 := view_dz r ny (x := .tuple ds) rfl (okEq_nd hz.2)
        rw [← hk] at h1 h2
        obtain ⟨as, r1⟩ := Dp.reads I _ x v h1 rx
        obtain ⟨bs, r2⟩ := Dp.reads I _ y u h2 ry
        exact SeqAt.notIn_tuple_reads r2 r1 (SeqAt.canLay_of_shaped hz.2) (SeqAt.canLay_of_shaped hz.1) (room_in' hz.1 hu) ⟨.bl _, H, I, rfl, fin_val r ev (by rw [Bool.xor_true]; exact .pd (.bl _))⟩
      · exact ev.elim
    · split at ev
      · rename_i a _ _ _ ds e
        split at ev
        · rename_i hz
          rw [Bool.and_eq_true] at hz
          have h1 := view_dz r nx (x := a) rfl (okEq_nd hz.1)
          have h2 := view_dz r ny e (okEq_nd hz.2)
          rw [← hk] at h1 h2
          obtain ⟨as, r1⟩ := Dp.reads I _ x v h1 rx
          obtain ⟨bs, r2⟩ := Dp.reads I _ y u h2 ry
          exact SeqAt.notIn_list_reads r2 r1 (SeqAt.canLay_of_shaped hz.2) (SeqAt.canLay_of_shaped hz.1) (room_in' hz.1 hu) ⟨.bl _, H, I, rfl, fin_val r ev (by rw [Bool.xor_true]; exact .pd (.bl _))⟩
        · exact ev.elim
      · exact ev.elim
  · exact ev.elim
end
end DL
end
section
namespace DL
open PySem PySem.Spec PyProof.Rows L2
section
variable {g : G} {E : WX} {L L' : List Addr} {H H' : Hp} {S S' : Sto} {σd : Sl} {σ : St} {v : V} {d : D}
variable {X : Cx} {a b c : Expr} {ma mb mc : DM D} {na nb nc : DM Bool} {pos : Pos}

/-! ### chains -/
def eChain (op op' : D → D → Sto → Out D) (a b c : DM D) : DM D := mBind a fun x => mBind b fun y => mBind (mBind (fun _ S => op x y S) asB) fun k => if k then mBind c fun z => fun _ S => op' y z S else eK (.bl false)
theorem chainX_of {op op' : D → D → Sto → Out D} {r r' : R2} {Q : VK}
    (hs : ∀ L S H x y dx dy Q, RepS g L S H → Den g L H dx x → Den g L H dy y → Ev g E L H (op dx dy S) (PV g Q) → r x y H Q)
    (hs' : ∀ L S H x y dx dy Q, RepS g L S H → Den g L H dx x → Den g L H dy y → Ev g E L H (op' dx dy S) (PV g Q) → r' x y H Q) (h : T g E (eChain op op' ma mb mc) σ H Q) : tChain r r' (T g E ma) (T g E mb) (T g E mc) σ H Q := by
  obtain ⟨L, σd, S, rp, sl, ev⟩ := h
  refine ⟨L, σd, S, rp, sl, ev.step fun dx S1 L1 H1 x1 r1 ev1 x n1 => ?_⟩
  refine ⟨L1, σd, S1, r1, sl.ext rp x1, ev1.step fun dy S2 L2 H2 x2 r2 ev2 y n2 => ?_⟩
  have ev2' := Ev.bind ev2
  refine hs L2 S2 H2 x y dx dy _ r2 (n1.ext r1 x2) n2 ((Ev.bind ev2').imp fun dz S3 L3 H3 x3 r3 ev3 z n3 => ?_)
  have sl3 : SlDen g L3 H3 σd σ := ((sl.ext rp x1).ext r1 x2).ext r2 x3
  unfold asB at ev3
  split at ev3
  · rename_i k
    cases den_bl n3
    refine ⟨k, rfl, ?_⟩
    cases k with
    | true =>
      have ev4 : Ev g E L3 H3 (mBind mc (fun z => fun _ S => op' dy z S) σd S3) (PV g Q) := ev3.ok r3
      rw [if_pos rfl]
      refine ⟨L3, σd, S3, r3, sl3, ev4.step fun dw S4 L4 H4 x4 r4 ev5 w n4 => ?_⟩
      exact hs' L4 S4 H4 y w dy dw Q r4 ((n2.ext r2 x3).ext r3 x4) n4 ev5
    | false =>
      have ev4 : Ev g E L3 H3 (.ok (.bl false) S3) (PV g Q) := ev3.ok r3
      rw [if_neg Bool.false_ne_true]
      exact fin_val r3 ev4 (.pd (.bl _))
  · exact ev3.elim
theorem px_chain {op op' : CmpOp} {f f' : D → D → Sto → Out D} (ho : OpX X g (compareOp op) f) (ho' : OpX X g (compareOp op') f') (ha : PE X a (T g E ma)) (hb : PE X b (T g E mb)) (hc : PE X c (T g E mc))
    (hm : lastMarks [op, op'] [b, c] = false := by with_unfolding_all rfl) : PE X (.Compare a [op, op'] [b, c] pos) (T g E (eChain f f' ma mb mc)) := by
  obtain ⟨r, hr, hs⟩ := OpX.has ho E
  obtain ⟨r', hr', hs'⟩ := OpX.has ho' E
  exact PE.imp (pe_chain hr hr' ha hb hc hm) fun σ H Q h => chainX_of hs hs' h
theorem pt_chainX {op op' : CmpOp} {f f' : D → D → Sto → Out D} (ho : OpX X g (compareOp op) f) (ho' : OpX X g (compareOp op') f') (ha : PE X a (T g E ma)) (hb : PE X b (T g E mb)) (hc : PE X c (T g E mc))
    (hm : lastMarks [op, op'] [b, c] = false := by with_unfolding_all rfl) : PT X (.Compare a [op, op'] [b, c] pos) (TB g E (eTest (eChain f f' ma mb mc))) := by
  obtain ⟨r, hr, hs⟩ := OpX.has ho E
  obtain ⟨r', hr', hs'⟩ := OpX.has ho' E
  refine PT.imp (pt_chain hr hr' ha hb hc hm) fun σ H Q h => ?_
  obtain ⟨L, σd, S, rp, sl, ev⟩ := h
  refine chainX_of (Q := fun x H' => ∃ k, x = .bl k ∧ Q k H') hs hs' ⟨L, σd, S, rp, sl, ev.step fun d S' L' H' x r' ev' v dn => ?_⟩
  exact asB_ok r' dn ev'

/-! ### truth -/
def truD (S : Sto) : D → Option Bool
  | .pd .none => some false
  | .pd (.bool b) => some b
  | .pd (.int i) => some (i != 0)
  | .pd (.str x) => if x.length ≤ sizeLine then some (x.length != 0) else none
  | .pd (.list xs) => some (!xs.isEmpty)
  | .pd (.tuple xs) => some (!xs.isEmpty)
  | .pd (.dict kvs) => none
  | .ref n => match S[n]? with
    | some (.lst xs) => some (!xs.isEmpty)
    | some (.dct kvs) => some (!kvs.isEmpty)
    | _ => none
  | .glob _ => none
def tru : D → DM Bool := fun d _ S => ofO (truD S d) S
def eTru (m : DM D) : DM Bool := mBind m tru
theorem isEmpty_len {α β : Type} {xs : List α} {ys : List β} (h : xs.length = ys.length) : xs.isEmpty = ys.isEmpty := by
  cases xs <;> cases ys <;> simp at h ⊢
theorem truD_ok (hk : X.K = g.K) (r : RepS g L S H) (dn : Den g L H d v) {k : Bool} (e : truD S d = some k) : TruV X.K v H k := by
  unfold truD at e
  split at e
  · cases e; cases den_non dn; rfl
  · cases e; cases den_bl dn; rfl
  · cases e; cases den_int dn; rfl
  · split at e
    · cases e; cases den_str dn
      rename_i hz
      exact ⟨hz, by
        rename_i z
        cases z.length <;> rfl⟩
    · cases e
  · cases e
    obtain ⟨a, vs, rfl, rd, dz⟩ := den_lst dn
    exact .inl ⟨vs, .inl rd, by rw [isEmpty_len dz.len]⟩
  · cases e
    obtain ⟨a, vs, rfl, rd, dz⟩ := den_tup dn
    exact .inr (.inl ⟨vs, by rw [hk]; exact rd, by rw [isEmpty_len dz.len]⟩)
  · cases e
  · rename_i n
    cases dn with
    | ref hn =>
      split at e
      · rename_i xs hs
        cases e
        obtain ⟨a, ha, od⟩ := r.ob hs
        rw [hn] at ha
        cases ha
        cases od with
        | lst q ds => exact .inl ⟨_, .inl (.inl q), by rw [isEmpty_len (Paired.len ds)]⟩
      · rename_i xs hs
        cases e
        obtain ⟨a, ha, od⟩ := r.ob hs
        rw [hn] at ha
        cases ha
        cases od with
        | dct q ds => exact .inr (.inr ⟨_, q, by rw [isEmpty_len (Paired.len ds)]⟩)
      · cases e
  · cases e
theorem tru_okD (hk : X.K = g.K) (r : RepS g L S H) (dn : Den g L H d v) {Q : Bool → Hp → Prop} (ev : Ev g E L H (tru d σd S) (PB Q)) : ∃ k, TruV X.K v H k ∧ Q k H := by
  unfold tru at ev
  cases e : truD S d with
  | none => rw [e] at ev; exact ev.elim
  | some k => rw [e] at ev; exact ⟨k, truD_ok hk r dn e, ev.ok r⟩
/-- any expression as a test -/
theorem pt_tru (hk : X.K = g.K) (ha : PE X a (T g E ma)) (he : ∀ whole, isTrue a X.env whole = (do let v ← whole; standAt a.pos; holding [v] (truthy v)) := by intro _; rfl) : PT X a (TB g E (eTru ma)) :=
  PT.imp (pt_truth ha he) fun σ H Q ⟨L, σd, S, rp, sl, ev⟩ => ⟨L, σd, S, rp, sl, ev.step fun d S' L' H' x r' ev' v dn => tru_okD hk r' dn ev'⟩
def bNot (m : DM Bool) : DM Bool := mBind m fun k => mRet (!k)
def bAnd (m n : DM Bool) : DM Bool := mBind m fun k => if k then n else mRet false
def bOr (m n : DM Bool) : DM Bool := mBind m fun k => if k then mRet true else n
theorem pt_notX (ha : PT X a (TB g E na)) : PT X (.UnaryOp .Not a pos) (TB g E (bNot na)) :=
  PT.imp (pt_not ha) fun σ H Q ⟨L, σd, S, rp, sl, ev⟩ => ⟨L, σd, S, rp, sl, ev.step fun k S' L' H' x r' ev' => ev'.ok r'⟩
theorem pw_and1X (ha : PT X a (TB g E na)) : PW X (.BoolOp .And [a] pos) (TB g E na) := pw_and1 ha
theorem pw_or1X (ha : PT X a (TB g E na)) : PW X (.BoolOp .Or [a] pos) (TB g E na) := pw_or1 ha
theorem pw_andX {rest : List Expr} (ha : PT X a (TB g E na)) (hb : PW X (.BoolOp .And (b :: rest) pos) (TB g E nb)) : PW X (.BoolOp .And (a :: b :: rest) pos) (TB g E (bAnd na nb)) :=
  PW.imp (pw_and ha hb) fun σ H Q ⟨L, σd, S, rp, sl, ev⟩ => ⟨L, σd, S, rp, sl, ev.step fun k S' L' H' x r' ev' => by
    cases k with
    | true => exact ⟨L', σd, S', r', sl.ext rp x, ev'⟩
    | false => exact Ev.ok (a := false) (P := PB Q) (E := E) ev' r'⟩
theorem pw_orX {rest : List Expr} (ha : PT X a (TB g E na)) (hb : PW X (.BoolOp .Or (b :: rest) pos) (TB g E nb)) : PW X (.BoolOp .Or (a :: b :: rest) pos) (TB g E (bOr na nb)) :=
  PW.imp (pw_or ha hb) fun σ H Q ⟨L, σd, S, rp, sl, ev⟩ => ⟨L, σd, S, rp, sl, ev.step fun k S' L' H' x r' ev' => by
    cases k with
    | false => exact ⟨L', σd, S', r', sl.ext rp x, ev'⟩
    | true => exact Ev.ok (a := true) (P := PB Q) (E := E) ev' r'⟩
/-- and, or, not as values -/
def eNot (m : DM D) : DM D := mBind (eTru m) fun k => eK (.bl (!k))
def eAnd (m n : DM D) : DM D := mBind m fun x => mBind (tru x) fun k => if k then n else eK x
def eOr (m n : DM D) : DM D := mBind m fun x => mBind (tru x) fun k => if k then eK x else n
theorem px_not (hk : X.K = g.K) (ha : PE X a (T g E ma)) : PE X (.UnaryOp .Not a pos) (T g E (eNot ma)) :=
  PE.imp (pe_notT ha) fun σ H Q ⟨L, σd, S, rp, sl, ev⟩ => ⟨L, σd, S, rp, sl, (Ev.bind ev).step fun d S' L' H' x r' ev' v dn => by
    have ev2 : Ev g E L' H' (tru d σd S') (PB fun k H => Q (.bl (!k)) H) := ev'.imp fun k S2 L2 H2 x2 r2 e2 => fin_val r2 e2 (.pd (.bl _))
    exact tru_okD hk r' dn ev2⟩
theorem px_one {op} (ha : PE X a (T g E ma)) : PE X (.BoolOp op [a] pos) (T g E ma) := pe_one ha
theorem px_and (hk : X.K = g.K) {rest : List Expr} (ha : PE X a (T g E ma)) (hb : PE X (.BoolOp .And (b :: rest) pos) (T g E mb)) : PE X (.BoolOp .And (a :: b :: rest) pos) (T g E (eAnd ma mb)) :=
  PE.imp (pe_andT ha hb) fun σ H Q ⟨L, σd, S, rp, sl, ev⟩ => ⟨L, σd, S, rp, sl, ev.step fun d S' L' H' x r' ev' v dn => by
    unfold mBind tru at ev'
    cases e : truD S' d with
    | none => rw [e] at ev'; exact ev'.elim
    | some k =>
      rw [e] at ev'
      refine ⟨k, truD_ok hk r' dn e, ?_⟩
      have ev2 : Ev g E L' H' ((if k = true then mb else eK d) σd S') (PV g Q) := ev'
      cases k with
      | true => exact ⟨L', σd, S', r', sl.ext rp x, ev2⟩
      | false => exact fin_val r' ev2 dn⟩
theorem px_or (hk : X.K = g.K) {rest : List Expr} (ha : PE X a (T g E ma)) (hb : PE X (.BoolOp .Or (b :: rest) pos) (T g E mb)) : PE X (.BoolOp .Or (a :: b :: rest) pos) (T g E (eOr ma mb)) :=
  PE.imp (pe_orT ha hb) fun σ H Q ⟨L, σd, S, rp, sl, ev⟩ => ⟨L, σd, S, rp, sl, ev.step fun d S' L' H' x r' ev' v dn => by
    unfold mBind tru at ev'
    cases e : truD S' d with
    | none => rw [e] at ev'; exact ev'.elim
    | some k =>
      rw [e] at ev'
      refine ⟨k, truD_ok hk r' dn e, ?_⟩
      have ev2 : Ev g E L' H' ((if k = true then eK d else mb) σd S') (PV g Q) := ev'
      cases k with
      | false => exact ⟨L', σd, S', r', sl.ext rp x, ev2⟩
      | true => exact fin_val r' ev2 dn⟩
/-- a if t else b -/
def eIf (t : DM Bool) (m n : DM D) : DM D := mBind t fun k => if k then m else n
theorem px_ifExp (hc : PT X c (TB g E nc)) (ha : PE X a (T g E ma)) (hb : PE X b (T g E mb)) : PE X (.IfExp c a b pos) (T g E (eIf nc ma mb)) :=
  PE.imp (pe_ifExp hc ha hb) fun σ H Q ⟨L, σd, S, rp, sl, ev⟩ => ⟨L, σd, S, rp, sl, ev.step fun k S' L' H' x r' ev' => by
    cases k with
    | true => exact ⟨L', σd, S', r', sl.ext rp x, ev'⟩
    | false => exact ⟨L', σd, S', r', sl.ext rp x, ev'⟩⟩
/-- -a -/
def uNeg : D → Sto → Out D := fun x S => match x with
  | .pd (.int i) => .ok (.int (-i)) S
  | _ => .stuck
def eUn (op : D → Sto → Out D) (m : DM D) : DM D := mBind m fun x => fun _ S => op x S
theorem px_neg (ha : PE X a (T g E ma)) : PE X (.UnaryOp .USub a pos) (T g E (eUn uNeg ma)) :=
  PE.imp (pe_un un_neg ha) fun σ H Q ⟨L, σd, S, rp, sl, ev⟩ => ⟨L, σd, S, rp, sl, ev.step fun d S' L' H' x r' ev' v dn => by
    unfold uNeg at ev'
    split at ev'
    · cases den_int dn
      exact ⟨_, rfl, fin_val r' ev' (.pd (.int _))⟩
    · exact ev'.elim⟩

/-! ### arguments, displays -/
def lNil : DM (List D) := mRet []
def lCons (m : DM D) (n : DM (List D)) : DM (List D) := mBind m fun x => mBind n fun xs => mRet (x :: xs)
variable {es : List Expr} {e : Expr} {ml : DM (List D)}
theorem px_nil : PA X [] (TL g E lNil) := PA.imp pa_nil fun σ H Q ⟨L, σd, S, rp, sl, ev⟩ => ev.ok rp [] .nil
theorem px_cons (ha : PE X e (T g E ma)) (hr : PA X es (TL g E ml)) (hs : starEach (e :: es) X.env = (false, eval e X.env) :: starEach es X.env := by rfl) : PA X (e :: es) (TL g E (lCons ma ml)) :=
  PA.imp (pa_cons ha hr hs) fun σ H Q ⟨L, σd, S, rp, sl, ev⟩ => ⟨L, σd, S, rp, sl, ev.step fun d S' L' H' x r' ev' v dn =>
    ⟨L', σd, S', r', sl.ext rp x, ev'.step fun ds S2 L2 H2 x2 r2 ev2 vs dns => ev2.ok r2 (v :: vs) (.cons (dn.ext r' x2) dns)⟩⟩
def mkTup : List D → DM D := fun ds _ S => match pdL ds with
  | some xs => if xs.length ≤ sizeLine then .ok (.tup xs) S else .stuck
  | none => .stuck
def mkLst : List D → DM D := fun ds _ S => match pdL ds with
  | some xs => if xs.length ≤ sizeLine then .ok (.lst xs) S else .stuck
  | none => .stuck
def mkLstM : List D → DM D := fun ds _ S => if ds.length ≤ sizeLine then .ok (.ref S.length) (S ++ [.lst ds]) else .stuck
def eTup (m : DM (List D)) : DM D := mBind m mkTup
def eLst (m : DM (List D)) : DM D := mBind m mkLst
def eLstM (m : DM (List D)) : DM D := mBind m mkLstM
theorem px_tup {x1} (h : PA X es (TL g E ml)) : PE X (.Tuple es x1 pos) (T g E (eTup ml)) :=
  PE.imp (pe_tup h) fun σ H Q ⟨L, σd, S, rp, sl, ev⟩ => ⟨L, σd, S, rp, sl, ev.step fun ds S' L' H' x r' ev' vs dns => by
    unfold mkTup at ev'
    split at ev'
    · rename_i xs ex
      split at ev'
      · rename_i hz
        have z := dens_dz (pdL_eq ex ▸ dns)
        exact ⟨by rw [z.len]; exact hz, fin_tup r' ev' z⟩
      · exact ev'.elim
    · exact ev'.elim⟩
theorem px_lst (h : PA X es (TL g E ml)) : PE X (.List es pos) (T g E (eLst ml)) :=
  PE.imp (pe_lst h) fun σ H Q ⟨L, σd, S, rp, sl, ev⟩ => ⟨L, σd, S, rp, sl, ev.step fun ds S' L' H' x r' ev' vs dns => by
    unfold mkLst at ev'
    split at ev'
    · rename_i xs ex
      split at ev'
      · rename_i hz
        have z := dens_dz (pdL_eq ex ▸ dns)
        exact ⟨by rw [z.len]; exact hz, fin_lst r' ev' z⟩
      · exact ev'.elim
    · exact ev'.elim⟩
theorem px_lstM (h : PA X es (TL g E ml)) : PE X (.List es pos) (T g E (eLstM ml)) :=
  PE.imp (pe_lst h) fun σ H Q ⟨L, σd, S, rp, sl, ev⟩ => ⟨L, σd, S, rp, sl, ev.step fun ds S' L' H' x r' ev' vs dns => by
    unfold mkLstM at ev'
    split at ev'
    · rename_i hz
      exact ⟨by rw [← Paired.len dns]; exact hz, fin_lstM r' ev' dns⟩
    · exact ev'.elim⟩

/-! ### subscripts, slices -/
def opIx : D → D → Sto → Out D := fun x y S => match x, y with
  | .pd (.str z), .pd (.int i) => if z.length ≤ sizeLine then (match atI z.cps.toList i with
    | some c => .ok (.str ⟨#[c]⟩) S
    | none => .stuck) else .stuck
  | x, .pd (.int i) => match asQ S x with
    | some xs => ofO (atI xs i) S
    | none => .stuck
  | _, _ => .stuck
theorem paired_atI {ds : List D} {vs : List V} (h : Dens g L H ds vs) {i : Int} (e : atI ds i = some d) : ∃ v, atI vs i = some v ∧ Den g L H d v := by
  unfold atI at e ⊢
  rw [← Paired.len h]
  cases q : ixN ds.length i with
  | none => rw [q] at e; cases e
  | some j =>
    rw [q] at e
    exact Paired.get h e
theorem px_ix (hk : X.K = g.K) (ha : PE X a (T g E ma)) (hb : PE X b (T g E mb)) (hs : PlainIx b := by exact fun _ _ => rfl) : PE X (.Subscript a b pos) (T g E (eOp opIx ma mb)) := by
  refine PE.imp (pe_ix ix_seq ha hb hs) fun σ H Q h => tOpX_of (fun L S H x y dx dy Q r nx ny ev => ?_) h
  unfold opIx at ev
  split at ev
  · rename_i z i
    split at ev
    · rename_i hz
      split at ev
      · rename_i c hc
        cases den_str nx; cases den_int ny
        exact .inr (.inr ⟨z, i, c, rfl, rfl, hz, hc, fin_val r ev (.pd (.str _))⟩)
      · exact ev.elim
    · exact ev.elim
  · rename_i i _
    split at ev
    · rename_i xs ex
      cases den_int ny
      obtain ⟨p, vs, rfl, rd, dn⟩ := asQ_ok r nx ex
      cases q : atI xs i with
      | none => rw [q] at ev; exact ev.elim
      | some d =>
        rw [q] at ev
        obtain ⟨v, ev', dv⟩ := paired_atI dn q
        rw [← hk] at rd
        rcases rd with rd | rd
        · exact .inl ⟨p, vs, i, v, rfl, rfl, rd, ev', fin_val r ev dv⟩
        · exact .inr (.inl ⟨p, vs, i, v, rfl, rfl, rd, ev', fin_val r ev dv⟩)
    · exact ev.elim
  · exact ev.elim
/-- parts of a slice -/
abbrev TOd (g : G) (E : WX) (m : DM (Option Int)) : TO := fun σ H Q => ∃ L σd S, RepS g L S H ∧ SlDen g L H σd σ ∧ Ev g E L H (m σd S) (fun o _ _ H => Q o H)
theorem PO.imp {o : Option Expr} {t t' : TO} (h : PO X o t) (i : ∀ σ H Q, t' σ H Q → t σ H Q) : PO X o t' := ⟨fun p s σ H Q I q => h.run p s σ H Q I (i σ H Q q)⟩
def asI : D → DM (Option Int) := fun d _ S => match d with
  | .pd (.int i) => .ok (some i) S
  | _ => .stuck
theorem po_noneX : PO X none (TOd g E (mRet none)) := PO.imp po_none fun σ H Q ⟨L, σd, S, rp, sl, ev⟩ => ev.ok rp
theorem po_someX (h : PE X e (T g E ma)) : PO X (some e) (TOd g E (mBind ma asI)) :=
  PO.imp (po_some h) fun σ H Q ⟨L, σd, S, rp, sl, ev⟩ => ⟨L, σd, S, rp, sl, ev.step fun d S' L' H' x r' ev' v dn => by
    unfold asI at ev'
    split at ev'
    · cases den_int dn
      exact ⟨_, rfl, ev'.ok r'⟩
    · exact ev'.elim⟩
/-- the items of xs[lo:hi] -/
def cut {α : Type} (xs : List α) (lo hi : Option Int) : List α := (xs.drop (HT.sIx xs.length 0 lo)).take (HT.sIx xs.length xs.length hi - HT.sIx xs.length 0 lo)
def slD (S : Sto) : D → Option Int → Option Int → Out D := fun d lo hi => match d with
  | .pd (.tuple xs) => .ok (.tup (cut xs lo hi)) S
  | d => match asL S d with
    | some xs => match pdL xs with
      | some zs => .ok (.lst (cut zs lo hi)) S
      | none => .stuck
    | none => .stuck
def eSlice (m : DM D) (lo hi : DM (Option Int)) : DM D := mBind m fun d => mBind lo fun l => mBind hi fun u => fun _ S => slD S d l u
theorem cut_dz {K : PySem.W.Frag} {W : Addr → Prop} {ds : List PyData} {vs : List V} (h : DzAll K W H vs ds) (lo hi : Option Int) : DzAll K W H (cutV vs lo hi) (cut ds lo hi) := by
  unfold cutV cut
  rw [h.len]
  exact (h.drop _).take _
theorem cut_whole {α : Type} {xs : List α} {lo hi : Option Int} (h : HT.sIx xs.length 0 lo = 0 ∧ HT.sIx xs.length xs.length hi = xs.length) : cut xs lo hi = xs := by
  unfold cut
  rw [h.1, h.2, List.drop_zero, Nat.sub_zero, List.take_length]
theorem px_sliceT (hk : X.K = g.K) {lo hi : Option Expr} {l u : DM (Option Int)} {p2 : Pos} (ha : PE X a (T g E ma)) (hl : PO X lo (TOd g E l)) (hu : PO X hi (TOd g E u)) : PE X (.Subscript a (.Slice lo hi none p2) pos) (T g E (eSlice ma l u)) :=
  PE.imp (pe_slice (sl_tupA.or sl_list) ha hl hu) fun σ H Q ⟨L, σd, S, rp, sl, ev⟩ => ⟨L, σd, S, rp, sl, ev.step fun d S1 L1 H1 x1 r1 ev1 v dn =>
    ⟨L1, σd, S1, r1, sl.ext rp x1, ev1.step fun lo S2 L2 H2 x2 r2 ev2 => ⟨L2, σd, S2, r2, (sl.ext rp x1).ext r1 x2, ev2.step fun hi S3 L3 H3 x3 r3 ev3 => by
      have n3 := (dn.ext r1 x2).ext r2 x3
      unfold slD at ev3
      split at ev3
      · rename_i xs
        obtain ⟨p, vs, rfl, rd, dz⟩ := den_tup n3
        refine .inl ⟨p, vs, rfl, by rw [hk]; exact rd, fun hw => ?_, fun _ => fin_tup r3 ev3 (cut_dz dz _ _)⟩
        rw [dz.len] at hw
        rw [cut_whole hw] at ev3
        exact fin_val r3 ev3 n3
      · split at ev3
        · rename_i xs ex
          split at ev3
          · rename_i zs ez
            obtain ⟨p, vs, rfl, rd, dn'⟩ := asL_ok r3 n3 ex
            have z := dens_dz (pdL_eq ez ▸ dn')
            exact .inr ⟨p, vs, rfl, .inl rd, fin_lst r3 ev3 (cut_dz z _ _)⟩
          · exact ev3.elim
        · exact ev3.elim⟩⟩⟩
/-- xs[::-1] of a list -/
def eRevL (m : DM D) : DM D := mBind m fun d => fun _ S => match asL S d with
  | some xs => match pdL xs with
    | some zs => .ok (.lst zs.reverse) S
    | none => .stuck
  | none => .stuck
theorem px_revL {k : Nat} {p1 p2 p3 : Pos} (ha : PE X a (T g E ma)) : PE X (.Subscript a (.Slice none none (some (.UnaryOp .USub (.Constant (.int 1) k p1) p2)) p3) pos) (T g E (eRevL ma)) :=
  PE.imp (pe_revL ha) fun σ H Q ⟨L, σd, S, rp, sl, ev⟩ => ⟨L, σd, S, rp, sl, ev.step fun d S' L' H' x r' ev' v dn => by
    cases e : asL S' d with
    | none => simp only [e] at ev'; exact ev'.elim
    | some xs =>
      simp only [e] at ev'
      cases e2 : pdL xs with
      | none => simp only [e2] at ev'; exact ev'.elim
      | some zs =>
        simp only [e2] at ev'
        obtain ⟨p, vs, rfl, rd, dn'⟩ := asL_ok r' dn e
        have z := dens_dz (pdL_eq e2 ▸ dn')
        exact ⟨p, vs, rfl, .inl rd, fin_lst r' ev' z.rev⟩⟩
end
end DL
end
section
namespace DL
open PySem PySem.Spec PyProof.Rows L2

/-! ### defs run where no repr is under way -/
structure RoomG (k : Nat) (A : Around) : Prop where
  rm : Room k A
  gd : A.guards = some []
theorem RoomG.mono {j k : Nat} {A : Around} (r : RoomG k A) (h : j ≤ k) : RoomG j A := ⟨r.rm.mono h, r.gd⟩
theorem RoomG.deeper {k : Nat} {A : Around} (r : RoomG (k + 1) A) (env : Env) : RoomG k (A.deeper env) := ⟨r.rm.deeper env, r.gd⟩
structure FnG (P : Program) (w : World) (K : PySem.W.Frag) (mg : Str → Option Value) (base : Heap) (k : Nat) (f : Addr) (fd : FuncData) (ps : List Str) (sp : Sp) : Prop where
  len : ∀ vs H Q E, sp vs H Q E → vs.length = ps.length
  run : ∀ (A : Around) (outer : List Env) (s : Shared) (H : Hp) (args : Args) (us : List Value) (vs : List V) (Q : VK) (E : XK), RoomG k A → Env0 P w K mg base A outer s H → BindsTo s fd args (ps.zip us) → Vals vs us → sp vs H Q E →
    codeAny (model P w) A (.call (.ref f) args) (CR (L2.CX P w) outer P w H s Q E) s
section
variable {P : Program} {w : World} {K : PySem.W.Frag} {mg : Str → Option Value} {base : Heap}
theorem FnG.mono {j k : Nat} {f : Addr} {fd : FuncData} {ps : List Str} {sp : Sp} (F : FnG P w K mg base j f fd ps sp) (h : j ≤ k) : FnG P w K mg base k f fd ps sp :=
  ⟨F.len, fun A outer s H args us vs Q E hr => F.run A outer s H args us vs Q E (hr.mono h)⟩
theorem Fun.okG {x qual : Str} {st : Stmt} {f : Addr} {fd : FuncData} {N ps : List Str} {k : Nat} {sp : Sp} (F : Fun K x qual st f fd) (S : FnScope N ps (defScope st)) (len : ∀ vs H Q E, sp vs H Q E → vs.length = ps.length)
    (hbody : ∀ (cdv : Value) (A : Around) (outer : List Env) (s : Shared) (H : Hp) (vs : List V) (Q : VK) (E : XK), RoomG k (A.deeper (envOfC qual (defScope st) s.heap.objs.size f cdv)) → sp vs H Q E →
      ∃ t, PSs (cxOf (L2.CX P w) P w K mg base N qual (defScope st) f cdv A outer s H E) (defBody st) t ∧ t { nx := fun _ H' => Q .non H', rt := Q } (start N vs) H) : FnG P w K mg base (k + 1) f fd ps sp := by
  obtain ⟨oc, od, kV, doc, pm, an, cdv, ct, osl, rfl, lk, hcd⟩ := F.ex
  refine ⟨len, fun A outer s H args us vs Q E hr e0 hb r hsp => ?_⟩
  have hl := len _ _ _ _ hsp
  have KX : K.In s.heap := e0.mod.kin.keeps fun b o e => (e0.bs b o e).1
  have lim : s.heap.NoLimit := e0.mod.nolimit.keeps fun b o e => (e0.bs b o e).1
  have hkind : ∀ y ∈ ps.zip us, (defScope st).names.lookup y.1 = some .local ∨ ((defScope st).names.lookup y.1 = some .cell ∧ ((cellsFrom (s.heap.objs.size + 1) (defScope st).names []).lookup y.1).isSome = true) := by
    rintro ⟨n, v⟩ hy
    exact (S.par n (List.of_mem_zip hy).1).elim .inl fun q => .inr ⟨q, PySem.W.cellsFrom_some _ _ _ (.inl q)⟩
  refine codeAny_call_function hr.rm.depth (KX _ _ lk) rfl S.co S.gen rfl (PySem.W.codeRec_of KX hcd) (hb _ _ _ _ (wpAny_newFunctionEnv_cells S.kind hkind fun env he s1 x => ?_))
  subst he
  refine ⟨lim.keeps x.toInCall.keep, codeAny_func ?_⟩
  obtain ⟨t, ht, hq⟩ := hbody cdv A outer s H vs Q E (hr.deeper _) hsp
  have I := inv_start (CX := L2.CX P w) (E := E) S hr.rm.hd e0 hl r x
  refine wpAny_mono (ht.run [] s1 (start N vs) H _ I hq) (fun fl s' hs => ?_) fun e s' hs => hs
  cases fl with
  | ret u =>
    obtain ⟨v, σ', H', J, rv, q⟩ := hs
    exact ⟨v, H', J.os, J.bare, J.base, J.hok, rv, q⟩
  | next =>
    obtain ⟨σ', H', J, q⟩ := hs
    exact ⟨V.non, H', J.os, J.bare, J.base, J.hok, rfl, q⟩
  | brk =>
    obtain ⟨_, _, _, q⟩ := hs
    exact q.elim
  | cont =>
    obtain ⟨_, _, _, q⟩ := hs
    exact q.elim
end
section
variable {X : Cx} {k : Nat} {f : Addr} {fd : FuncData} {ps : List Str} {sp : Sp} {ds : List Value} {E : L2.St → XK} {x : Str} {p pos : Pos} {e : Expr} {es : List Expr} {t : TA}
theorem run_fnG {pins : List (Addr × Obj)} {σ : L2.St} {H : Hp} {s : Shared} {Q : VK} {us : List Value} {vs : List V} (F : FnG X.prog X.w X.K X.mg X.base k f fd ps sp) (hr : RoomG k X.A) (hb : Binds X.K fd ps []) (hx : PassesAt (L2.CX X.prog X.w) X σ (E σ))
    (I : Inv X pins σ H s) (r : Vals vs us) (h : sp vs H Q (E σ)) : wpAny (model X.prog X.w) X.A (call (.ref f) us) (EP X pins σ Q) X.xe s := by
  have hl : (us ++ []).length = ps.length := by rw [List.append_nil, ← r.length]; exact F.len _ _ _ _ h
  have hb' := hb s us I.kIn hl
  rw [List.append_nil] at hb'
  refine wpAny_call (codeAny_mono (F.run X.A X.stack s H ⟨us, []⟩ us vs Q (E σ) hr I.env0 hb' r h) fun r s' hq => ?_)
  match r, hq with
  | .error e, hq => exact hx pins H s e s' I hq
  | .ok (.ret u), hq => exact I.after hq
  | .ok .next, hq => exact False.elim hq
  | .ok .brk, hq => exact False.elim hq
  | .ok .cont, hq => exact False.elim hq
theorem pe_callG (F : FnG X.prog X.w X.K X.mg X.base k f fd ps sp) (hr : RoomG k X.A) (hg : Gl X x) (hm : X.mg x = some (.ref f)) (hk : PySem.W.keepIn X.K (.ref f) = true) (hb : Binds X.K fd ps []) (hx : ∀ σ, PassesAt (L2.CX X.prog X.w) X σ (E σ))
    (ha : PA X (e :: es) t) (hdb : (x == ("__debug__" : Str)) = false := by decide) (he : starEach (e :: es) X.env = (false, eval e X.env) :: starEach es X.env := by rfl) (hpl : (backTo pos (starEach es X.env)).any (·.1) = false := by rfl) :
    PE X (.Call (.Name x p) (e :: es) [] pos) (fun σ H Q => t σ H fun vs H1 => sp vs H1 Q (E σ)) := by
  refine ⟨fun pins s σ H Q I h => ?_⟩
  refine wpAny_Call_Name_kw (ld_glob I hg hm ?_ hdb)
  exact PySem.W.callWith_K (h₀ := X.base) I.ok.mod.kin hk (thn (ha.run pos pins s σ H _ I h) fun us s1 ⟨vs, H1, I1, r, q⟩ => ⟨I1.kIn, run_fnG F hr hb (hx σ) I1 r q⟩) he hpl
end

/-! ### the end: the law called on a script -/
/-- the abstract heap in which nothing but the script is told, as a list that stays -/
def scriptH (a : Addr) (vs : List Value) (ns : List Int) : Hp := fun b => if b = a then some (.frz { cls := .type "list", data := .seq vs.toArray } (.lst (ns.map V.int))) else none
theorem law_callG {P : Program} {w : World} {K : PySem.W.Frag} {mg mb : Str → Option Value} {k : Nat} {fa a : Addr} {fd : FuncData} {x : Str} {sp : Sp} {s₁ : Shared} {vs : List Value} {ns : List Int}
    (KX : K.In s₁.heap) (hns : s₁.heap.Ns mainGlobals mg) (hb : s₁.heap.Ns builtinsNs mb) (hbb : ∀ x : Str, x ≠ "__name__" → mb x = bootBuiltins x) (hlim : s₁.heap.NoLimit) (hg : s₁.gens = #[])
    (ha : s₁.heap.get? a = some { cls := .type "list", data := .seq vs.toArray }) (hi : IntsAre vs ns) (hl : ns.length ≤ sizeLine) (hr : RoomG k callerA)
    (F : ∀ base : Heap, K.In base → base.Ns mainGlobals mg → FnG P w K mg base k fa fd [x] sp) (hbind : ∀ (s : Shared) (u : Value), BindsTo s fd ⟨[u], []⟩ [(x, u)])
    (hKa : K.lookup a = none) (hsp : ∀ H : Hp, Rd H a (.lst (ns.map V.int)) → sp [.ref a] H (fun v _ => v = .bl true) fun _ _ _ => False)
    (hCX : ∀ H e s', L2.CX P w [] H s₁ (fun _ _ _ => False) e s' → False) :
    codeAny (model P w) callerA (.call (.ref fa) ⟨[.ref a], []⟩) (fun r s' => r = .ok (.ret (.bool true)) ∧ OldK s₁.heap s'.heap ∧ s'.os = s₁.os ∧ AllBare s'.gens) s₁ := by
  have rv := vals_ints hi
  have lenV := hi.length
  have core : ∀ H : Hp, Only H → Rd H a (.lst (ns.map V.int)) → HOk P w H s₁.heap → (∀ b, H b ≠ none → b = a ∧ K.lookup b = none) →
      codeAny (model P w) callerA (.call (.ref fa) ⟨[.ref a], []⟩) (fun r s' => r = .ok (.ret (.bool true)) ∧ OldK s₁.heap s'.heap ∧ s'.os = s₁.os ∧ AllBare s'.gens) s₁ := by
    intro H hO hS hok hA
    have notA : ∀ {b : Addr} {o : Obj}, s₁.heap.get? b = some o → (∀ q : H b ≠ none, False) → (hidT s₁.heap H).get? b = some o := fun {b o} e n => hidT_get e (by
      cases q : H b with
      | none => rfl
      | some u => exact (n (by rw [q]; simp)).elim)
    have nsK : ∀ {b : Addr} {m : Str → Option Value}, s₁.heap.Ns b m → (hidT s₁.heap H).Ns b m := by
      rintro b m ⟨o, es, ep, e, d, r⟩
      have hne : H b ≠ none → False := fun q => by
        obtain ⟨rfl, _⟩ := hA b q
        rw [ha] at e; cases e
        have d' : Data.seq vs.toArray _ = Data.dict es ep := d
        cases d'
      exact ⟨o, es, ep, notA e hne, d, r⟩
    have hKb : K.In (hidT s₁.heap H) := fun b o e => notA (KX b o e) fun q => by
      rw [(hA b q).2] at e; cases e
    have hM : Mod K mg (hidT s₁.heap H) := ⟨hKb, nsK hns, ⟨mb, nsK hb, hbb⟩, let ⟨mc, h1, h2⟩ := hlim; ⟨mc, nsK h1, h2⟩⟩
    have e0 : Env0 P w K mg (hidT s₁.heap H) callerA [] s₁ H := ⟨rfl, hM, fun b o e => of_hidT e, Nat.le_of_eq (hidT_size _ _), trivial, fun b hb => absurd (show b ∈ ([] : List Addr) from hb) (by simp), hok, .of_eq hg⟩
    refine codeAny_mono ((F _ hKb (nsK hns)).run callerA [] s₁ H ⟨[.ref a], []⟩ [.ref a] [.ref a] _ _ hr e0 (hbind s₁ (.ref a)) (.cons rfl .nil) (hsp H hS)) fun r s' h => ?_
    match r, h with
    | .error e, h => exact (hCX H e s' h).elim
    | .ok .next, h => exact False.elim h
    | .ok .brk, h => exact False.elim h
    | .ok .cont, h => exact False.elim h
    | .ok (.ret u), h =>
      obtain ⟨v, H', os, bare, un, hok', r', q⟩ := h
      cases (show v = .bl true from q)
      cases (show u = Value.bool true from r')
      refine ⟨rfl, OldK.of_keep fun b o e => ?_, os, bare⟩
      cases q : H b with
      | none => exact un.keep b o e q (by intro z; exact absurd (show b ∈ ([] : List Addr) from z) (by simp)) (by simp)
      | some u =>
        rcases hO b with z | ⟨ob, xs, z⟩
        · rw [q] at z; cases z
        · obtain ⟨e1, _⟩ := hok b _ z
          obtain ⟨e2, _⟩ := hok' b _ (un.frzs b ob _ z)
          rw [e] at e1; cases e1
          exact e2
  refine core (scriptH a vs ns) (fun b => ?_) (.inr ⟨{ cls := .type "list", data := .seq vs.toArray }, if_pos rfl⟩) (fun b u z => ?_) (fun b z => ?_)
  · by_cases hb : b = a
    · exact .inr ⟨_, _, if_pos hb⟩
    · exact .inl (if_neg hb)
  · by_cases hb : b = a
    · have z' := (if_pos hb).symm.trans z
      cases z'
      subst hb
      exact ⟨ha, by rw [List.length_map]; exact hl, vs, _, rv, ha⟩
    · have z' := (if_neg hb).symm.trans z
      cases z'
  · by_cases hb : b = a
    · exact ⟨hb, by rw [hb]; exact hKa⟩
    · exact absurd (if_neg hb) z
/-- no list stands in the written part -/
def noLst (K : PySem.W.Frag) : Bool := K.all fun p => !(match p.2.cls with | .type s => s == "list" | _ => false)
theorem noLst_ok {K : PySem.W.Frag} (h : noLst K = true) {a : Addr} {o : Obj} (e : K.lookup a = some o) : o.cls ≠ .type "list" := by
  unfold noLst at h
  rw [List.all_eq_true] at h
  have m : (a, o) ∈ K := by
    clear h
    induction K with
    | nil => cases e
    | cons p r ih =>
      obtain ⟨b, q⟩ := p
      rw [List.lookup_cons] at e
      split at e
      · rename_i hb
        cases e
        rw [show a = b from by simpa using hb]
        exact List.mem_cons_self
      · exact List.mem_cons_of_mem _ (ih e)
  have := h _ m
  intro hc
  rw [hc] at this
  exact absurd this (by decide)
theorem walk_ofG {l : PySem.W.OpenLaw} {n k : Nat} {q : Program} {loose : List Str} {XP : (Str → Option Value) → Heap → Prop} {YP : World → Heap → Prop} {d : DefRec} {K : Params → PySem.W.Frag} {sp : World → Sp} {x : Str}
    (hn : l.most = some n) (hn2 : n ≤ sizeLine) (hdf : d.params.defaults = []) (hr : RoomG k callerA) (hKL : ∀ w : World, noLst (K w.params) = true)
    (hY : ∀ (w : World) (h : Heap), YP w h → (K w.params).In h)
    (F : ∀ (w : World) (mg : Str → Option Value) (fa : Addr) (h : Heap), (K w.params).In h → h.Ns mainGlobals mg → mg d.name = some (.ref fa) →
      ∃ fd : FuncData, (∀ (s : Shared) (u : Value), BindsTo s fd ⟨[u], []⟩ [(x, u)]) ∧
        ∀ base : Heap, (K w.params).In base → base.Ns mainGlobals mg → FnG l.prog w (K w.params) mg base k fa fd [x] (sp w))
    (hsp : ∀ (w : World) (H : Hp) (a : Addr) (ns : List Int), ns.length ≤ n → Rd H a (.lst (ns.map V.int)) → sp w [.ref a] H (fun v _ => v = .bl true) fun _ _ _ => False)
    (hCX : ∀ (w : World) (H : Hp) (s : Shared) (e : Value) (s' : Shared), L2.CX l.prog w [] H s (fun _ _ _ => False) e s' → False) :
    PySem.W.WalkO q loose XP YP l.row.toRowW d [] (fun f vs => PySem.call f vs) := by
  refine Att.attach_call hn hdf fun w s₀ s₁ mg mb fa o pm cd doc a vs ns G Y ho hd hcd hmg hobj hints hlen hg => ?_
  have KX := hY w _ Y
  obtain ⟨fd, hb, hF⟩ := F w mg fa _ KX G.T.g hmg
  have hKa : (K w.params).lookup a = none := by
    cases e : (K w.params).lookup a with
    | none => rfl
    | some o =>
      have e2 := KX a o e
      rw [hobj] at e2
      cases e2
      exact absurd rfl (noLst_ok (hKL w) e)
  exact law_callG KX G.T.g G.T.b G.T.builtins G.T.nolimit hg hobj hints (Nat.le_trans hlen hn2) hr hF hb hKa (fun H hS => hsp w H a ns hlen hS) fun H e s' => hCX w H s₁ e s'
end DL
end
section
namespace DL
open PySem PySem.Spec PyProof.Rows L2

/-! ### defs -/
def noRef : D → Bool
  | .ref _ => false
  | _ => true
def pdOb : Ob → Bool
  | .lst xs => xs.all noRef
  | .dct kvs => kvs.all fun p => noRef p.2
  | .dtt kvs => kvs.all fun p => noRef p.2
  | .ins _ fs => fs.all fun p => noRef p.2
def refsOf : List D → List Nat
  | [] => []
  | .ref n :: r => n :: refsOf r
  | _ :: r => refsOf r
def renum : Nat → List D → List D
  | _, [] => []
  | k, .ref _ :: r => .ref k :: renum (k + 1) r
  | k, d :: r => d :: renum k r
def obsAt (S : Sto) : List Nat → Option (List Ob)
  | [] => some []
  | n :: r => match S[n]?, obsAt S r with
    | some o, some os => some (o :: os)
    | _, _ => none
def putAll (S : Sto) : List Nat → List Ob → Sto
  | n :: r, o :: os => putAll (S.set n o) r os
  | _, _ => S
abbrev DF := List D → Sto → Out D
def callF (n : Nat) (f : DF) (ds : List D) : DM D := fun σ S => match obsAt S (refsOf ds) with
  | some os => if ds.length = n ∧ (refsOf ds).Nodup ∧ os.all pdOb = true then (match f (renum 0 ds) os with
    | .ok d S' => if S'.length = os.length ∧ noRef d = true ∧ S'.all pdOb = true then .ok d (putAll S (refsOf ds) S') else .stuck
    | .exc e _ S' => if S'.length = os.length ∧ S'.all pdOb = true ∧ (e.fs.all fun p => noRef p.2) = true then .exc e σ (putAll S (refsOf ds) S') else .stuck
    | .stuck => .stuck) else .stuck
  | none => .stuck
/-- what is handed back stands by itself -/
def frz (k : Nat) (S : Sto) : D → Option D
  | .ref n => if k ≤ n then (match S[n]? with
    | some (.lst xs) => (pdL xs).map fun ys => .pd (.list ys)
    | _ => none) else none
  | d => some d
def fin (k : Nat) (d : D) (S : Sto) : Out D := match frz k S d with
  | some d' => if (S.take k).all pdOb = true then .ok d' (S.take k) else .stuck
  | none => .stuck
def startD (n : Nat) (ds : List D) : Sl := ds.map some ++ List.replicate (n - ds.length) none
def runF (n : Nat) (m : DM Fl) : DF := fun ds S => match m (startD n ds) S with
  | .ok (.ret d) S' => fin S.length d S'
  | .ok (.next _) S' => fin S.length .non S'
  | .ok _ _ => .stuck
  | .exc e _ S' => if (S'.take S.length).all pdOb = true ∧ (e.fs.all fun p => noRef p.2) = true then .exc e [] (S'.take S.length) else .stuck
  | .stuck => .stuck

def spM (K : PySem.W.Frag) (mg : Str → Option Value) (n : Nat) (f : DF) : Sp := fun vs H Q E => vs.length = n ∧ ∃ (W : Addr → Prop) (as : List Addr) (ds : List D) (S : Sto),
  RepS ⟨K, mg, W, H, as⟩ as S H ∧ Dens ⟨K, mg, W, H, as⟩ as H ds vs ∧ Ev ⟨K, mg, W, H, as⟩ (fun c x _ H' => E c x H') as H (f ds S) (PV ⟨K, mg, W, H, as⟩ Q)

section
variable {g g' : G} {E : WX} {L L' : List Addr} {H H' : Hp} {S S' : Sto} {σd : Sl} {σ : St} {v : V} {d : D}
mutual
theorem Dz.anti {K : PySem.W.Frag} {W W' : Addr → Prop} (i : ∀ a, W' a → W a) : ∀ {d : PyData} {v : V}, Dz K W H v d → Dz K W' H v d
  | _, _, .non => .non
  | _, _, .bl b => .bl b
  | _, _, .int b => .int b
  | _, _, .str b => .str b
  | _, _, .lst n r ha => .lst (fun w => n (i _ w)) r (DzAll.anti i ha)
  | _, _, .tup r ha => .tup r (DzAll.anti i ha)
  | _, _, .dct n r h1 h2 => .dct (fun w => n (i _ w)) r (DzAll.anti i h1) (DzAll.anti i h2)
theorem DzAll.anti {K : PySem.W.Frag} {W W' : Addr → Prop} (i : ∀ a, W' a → W a) : ∀ {ds : List PyData} {vs : List V}, DzAll K W H vs ds → DzAll K W' H vs ds
  | _, _, .nil => .nil
  | _, _, .cons h1 h2 => .cons (Dz.anti i h1) (DzAll.anti i h2)
end
/-- what holds no references is the same seen from elsewhere -/
theorem Den.move (hK : g'.K = g.K) (hm : g'.mg = g.mg) (i : ∀ a, g'.wr L' a → g.wr L a) (n : noRef d = true) (h : Den g L H d v) : Den g' L' H d v := by
  cases h with
  | pd h => exact .pd (hK ▸ h.anti i)
  | ref h => exact absurd n Bool.false_ne_true
  | glob h => exact .glob (by rw [hm]; exact h)
theorem Dens.move (hK : g'.K = g.K) (hm : g'.mg = g.mg) (i : ∀ a, g'.wr L' a → g.wr L a) : ∀ {ds : List D} {vs : List V}, ds.all noRef = true → Dens g L H ds vs → Dens g' L' H ds vs
  | _, _, _, .nil => .nil
  | _, _, n, .cons h t => by
    rw [List.all_cons, Bool.and_eq_true] at n
    exact .cons (h.move hK hm i n.1) (Dens.move hK hm i n.2 t)
theorem kvmove {κ : Type} (hK : g'.K = g.K) (hm : g'.mg = g.mg) (i : ∀ a, g'.wr L' a → g.wr L a) : ∀ {kvs : List (κ × D)} {ws : List (κ × V)}, (kvs.all fun p => noRef p.2) = true → Paired (fun p q => p.1 = q.1 ∧ Den g L H p.2 q.2) kvs ws → Paired (fun p q => p.1 = q.1 ∧ Den g' L' H p.2 q.2) kvs ws
  | _, _, _, .nil => .nil
  | _, _, n, .cons h t => by
    rw [List.all_cons, Bool.and_eq_true] at n
    exact .cons ⟨h.1, h.2.move hK hm i n.1⟩ (kvmove hK hm i n.2 t)
theorem ObDen.move {ob : Ob} {a : Addr} (hK : g'.K = g.K) (hm : g'.mg = g.mg) (i : ∀ a, g'.wr L' a → g.wr L a) (n : pdOb ob = true) (h : ObDen g L H a ob) : ObDen g' L' H a ob := by
  cases h with
  | lst e d => exact .lst e (d.move hK hm i n)
  | dct e d => exact .dct e (kvmove hK hm i n d)
  | dtt e d => exact .dtt e (kvmove hK hm i n d)
  | ins c e d => exact .ins (by rw [hm]; exact c) e (kvmove hK hm i n d)
theorem ExDen.move {e : Exn} {c : Value} {x : Option Addr} (hK : g'.K = g.K) (hm : g'.mg = g.mg) (i : ∀ a, g'.wr L' a → g.wr L a) (n : (e.fs.all fun p => noRef p.2) = true) (h : ExDen g L H e c x) : ExDen g' L' H e c x := by
  have hc : ∀ {k : ECls}, ClsIs g k c → ClsIs g' k c := fun {k} q => by
    cases k with
    | own x => obtain ⟨C, a, b⟩ := q; exact ⟨C, by rw [hm]; exact a, b⟩
    | bt n => exact q
  cases h with
  | none q e => exact .none (hc q) e
  | some q e d => exact .some (hc q) e (kvmove hK hm i n d)
theorem Paired.takeL {α β : Type} {F : α → β → Prop} : ∀ {l : List α} {l' : List β} (n : Nat), Paired F l l' → Paired F (l.take n) (l'.take n)
  | _, _, 0, _ => .nil
  | _, _, _ + 1, .nil => .nil
  | _, _, n + 1, .cons r t => .cons r (Paired.takeL n t)
theorem Paired.memL {α β : Type} {F F' : α → β → Prop} : ∀ {l : List α} {l' : List β}, Paired F l l' → (∀ a b, a ∈ l → b ∈ l' → F a b → F' a b) → Paired F' l l'
  | _, _, .nil, _ => .nil
  | _, _, .cons r t, f => .cons (f _ _ List.mem_cons_self List.mem_cons_self r) (Paired.memL t fun a b ha hb => f a b (List.mem_cons_of_mem _ ha) (List.mem_cons_of_mem _ hb))
/-- back to the objects handed in -/
theorem RepS.trim (r : RepS g L S H) (n : (S.take g.as.length).all pdOb = true) : RepS g g.as (S.take g.as.length) H where
  nd := r.nd.sublist r.pre.sublist
  pre := List.prefix_refl _
  obs := by
    have h := Paired.takeL g.as.length r.obs
    have e : L.take g.as.length = g.as := by
      obtain ⟨t, rfl⟩ := r.pre
      simp
    rw [e] at h
    refine Paired.memL h fun ob a ho ha q => q.move rfl rfl (fun b w => w.imp id fun z => mem_pre r.pre z) (List.all_eq_true.mp n _ ho)
  fresh := fun a h na => absurd h na
  own := fun a h na => absurd h na
  keep := r.keep
  amb := r.amb
  asW := r.asW
theorem Ext.trim {as : List Addr} (x : Ext g as H L' H') : Ext g as H as H' := ⟨List.prefix_refl _, fun _ h n => absurd h n, x.keep, x.there⟩
theorem startD_sl {ds : List D} {vs : List V} {N : List Str} (h : Dens g L H ds vs) : SlDen g L H (startD N.length ds) (L2.start N vs) := by
  intro i d e
  unfold startD at e
  by_cases hi : i < ds.length
  · rw [List.getElem?_append_left (by simpa using hi), List.getElem?_map] at e
    cases q : ds[i]? with
    | none => rw [q] at e; cases e
    | some d' =>
      rw [q] at e
      cases e
      obtain ⟨v, e2, dn⟩ := Paired.get h q
      refine ⟨v, ?_, dn⟩
      unfold L2.start
      rw [List.getElem?_append_left (by simpa [← Paired.len h] using hi), List.getElem?_map, e2]
      rfl
  · rw [List.getElem?_append_right (by simpa using hi), List.getElem?_replicate] at e
    split at e <;> cases e
theorem frz_ok {as : List Addr} {d' : D} (hg : g.as = as) (r : RepS g L S H) (dn : Den g L H d v) (e : frz as.length S d = some d') : Den g as H d' v := by
  unfold frz at e
  split at e
  · rename_i n
    cases dn with
    | ref hn =>
      rename_i a
      split at e
      · rename_i hk
        split at e
        · rename_i xs hs
          cases q : pdL xs with
          | none => rw [q] at e; cases e
          | some ys =>
            rw [q] at e
            cases e
            obtain ⟨a', ha, od⟩ := r.ob hs
            rw [hn] at ha
            cases ha
            cases od with
            | lst q2 ds =>
              rw [pdL_eq q] at ds
              have hna : a ∉ g.as := by
                intro hm
                rw [hg] at hm
                obtain ⟨j, hj, ej⟩ := List.mem_iff_getElem.mp hm
                obtain ⟨t, ht⟩ := r.pre
                have e1 : L[j]? = some a := by
                  rw [← ht, hg, List.getElem?_append_left hj, List.getElem?_eq_getElem hj, ej]
                have hjl := (List.getElem?_eq_some_iff.mp e1).1
                have hnl := (List.getElem?_eq_some_iff.mp hn).1
                have e2 := (List.getElem?_eq_some_iff.mp e1).2
                have e3 := (List.getElem?_eq_some_iff.mp hn).2
                have := (List.getElem_inj r.nd).mp (e2.trans e3.symm)
                omega
              have hno : ¬ g.wr as a := fun w => w.elim (r.own a (List.mem_of_getElem? hn) hna) fun z => hna (by rw [hg]; exact z)
              refine .pd (.lst hno (.inl q2) ((dens_dz ds).anti fun b w => w.imp id fun z => mem_pre r.pre (by rw [hg]; exact z)))
        · cases e
      · cases e
  · cases e
    rename_i hd
    have n : noRef d = true := by
      cases d with
      | ref n => exact absurd rfl (hd n)
      | _ => rfl
    exact dn.move rfl rfl (fun b w => w.imp id fun z => mem_pre r.pre (by rw [hg]; exact z)) n
end

/-- THE RULE: a def of the text, by its body's outcome -/
theorem Fun.dl {P : Program} {w : World} {K : PySem.W.Frag} {mg : Str → Option Value} {base : Heap} {x qual : Str} {st : Stmt} {f : Addr} {fd : FuncData} {N ps : List Str} {k : Nat} {m : DM Fl} (F : Fun K x qual st f fd) (Sc : FnScope N ps (defScope st))
    (hb : ∀ (cdv : Value) (A : Around) (outer : List Env) (s : Shared) (H : Hp) (E : XK) (W : Addr → Prop) (as : List Addr), RoomG k (A.deeper (envOfC qual (defScope st) s.heap.objs.size f cdv)) →
      PSs (cxOf (L2.CX P w) P w K mg base N qual (defScope st) f cdv A outer s H E) (defBody st) (TSt ⟨K, mg, W, H, as⟩ (fun c d _ H => E c d H) m)) :
    FnG P w K mg base (k + 1) f fd ps (spM K mg ps.length (runF N.length m)) := by
  refine Fun.okG F Sc (fun vs H Q E h => h.1) (fun cdv A outer s H vs Q E hr h => ?_)
  obtain ⟨hl, W, as, ds, S, rp, dn, ev⟩ := h
  refine ⟨_, hb cdv A outer s H E W as hr, as, startD N.length ds, S, rp, startD_sl dn, ?_⟩
  have hS : S.length = as.length := Paired.len rp.obs
  unfold runF at ev
  cases em : m (startD N.length ds) S with
  | ok fl S' =>
    rw [em] at ev
    have done : ∀ d, Ev ⟨K, mg, W, H, as⟩ (fun c x _ H' => E c x H') as H (fin S.length d S') (PV ⟨K, mg, W, H, as⟩ Q) →
        ∀ L' H', Ext ⟨K, mg, W, H, as⟩ as H L' H' → RepS ⟨K, mg, W, H, as⟩ L' S' H' → ∀ v, Den ⟨K, mg, W, H, as⟩ L' H' d v → Q v H' := by
      intro d ev L' H' x r v dn'
      unfold fin at ev
      split at ev
      · rename_i d' ed
        split at ev
        · rename_i hp
          rw [hS] at ev ed hp
          exact ev as H' x.trim (r.trim hp) v (frz_ok rfl r dn' ed)
        · exact ev.elim
      · exact ev.elim
    cases fl with
    | ret d => exact fun L' H' x r v dn' => done d ev L' H' x r v dn'
    | next σ => exact fun L' H' x r σ _ => done .non ev L' H' x r .non (.pd .non)
    | brk σ => exact ev.elim
    | cont σ => exact ev.elim
  | exc e σ S' =>
    rw [em] at ev
    dsimp only at ev
    split at ev
    · rename_i hp
      rw [hS] at ev hp
      intro L' H' c x σ y r sl ex
      exact ev as H' c x [] y.trim (r.trim hp.1) (fun i d z => by simp at z) (ex.move rfl rfl (fun b w => w.imp id fun z => mem_pre r.pre z) hp.2)
    · exact ev.elim
  | stuck => rw [em] at ev; exact ev.elim
end DL
end
section
namespace DL
open PySem PySem.Spec PyProof.Rows L2
section
variable {g g' : G} {E : WX} {L L' : List Addr} {H H' : Hp} {S S' : Sto} {σd : Sl} {σ : St} {v : V} {d : D}
def addrsAt (L : List Addr) : List Nat → List Addr
  | [] => []
  | n :: r => L.getD n 0 :: addrsAt L r
theorem addrsAt_mem : ∀ {idx : List Nat} {a : Addr}, a ∈ addrsAt L idx → (∀ i ∈ idx, i < L.length) → ∃ i ∈ idx, L[i]? = some a
  | [], _, h, _ => by cases h
  | n :: r, a, h, hl => by
    rcases List.mem_cons.mp h with rfl | h
    · refine ⟨n, List.mem_cons_self, ?_⟩
      have := hl n List.mem_cons_self
      simp [List.getD, List.getElem?_eq_getElem this]
    · obtain ⟨i, hi, e⟩ := addrsAt_mem h fun i hi => hl i (List.mem_cons_of_mem _ hi)
      exact ⟨i, List.mem_cons_of_mem _ hi, e⟩
theorem obsAt_lt : ∀ {idx : List Nat} {os : List Ob}, obsAt S idx = some os → ∀ i ∈ idx, i < S.length
  | [], _, _, _, h => by cases h
  | n :: r, os, e, i, h => by
    unfold obsAt at e
    split at e
    · rename_i o os' e1 e2
      rcases List.mem_cons.mp h with rfl | h
      · exact (List.getElem?_eq_some_iff.mp e1).1
      · exact obsAt_lt e2 i h
    · cases e
theorem obsAt_len : ∀ {idx : List Nat} {os : List Ob}, obsAt S idx = some os → os.length = idx.length
  | [], _, e => by cases e; rfl
  | n :: r, os, e => by
    unfold obsAt at e
    split at e
    · rename_i o os' e1 e2
      cases e
      rw [List.length_cons, List.length_cons, obsAt_len e2]
    · cases e
theorem addrsAt_len : ∀ idx : List Nat, (addrsAt L idx).length = idx.length
  | [] => rfl
  | n :: r => by rw [addrsAt, List.length_cons, List.length_cons, addrsAt_len r]
theorem addrsAt_get : ∀ {idx : List Nat} {j n : Nat}, idx[j]? = some n → (addrsAt L idx)[j]? = some (L.getD n 0)
  | [], _, _, h => by simp at h
  | m :: r, 0, n, h => by simp at h; subst h; simp [addrsAt]
  | m :: r, j + 1, n, h => by
    simp at h
    simpa [addrsAt] using addrsAt_get h
theorem addrsAt_nodup (nd : L.Nodup) : ∀ {idx : List Nat}, idx.Nodup → (∀ i ∈ idx, i < L.length) → (addrsAt L idx).Nodup
  | [], _, _ => List.nodup_nil
  | n :: r, h, hl => by
    have h' := List.nodup_cons.mp h
    refine List.nodup_cons.mpr ⟨fun hm => ?_, addrsAt_nodup nd h'.2 fun i hi => hl i (List.mem_cons_of_mem _ hi)⟩
    obtain ⟨i, hi, e⟩ := addrsAt_mem hm fun i hi => hl i (List.mem_cons_of_mem _ hi)
    have hn := hl n List.mem_cons_self
    have e2 : L[n]? = some (L.getD n 0) := by simp [List.getD, List.getElem?_eq_getElem hn]
    have a1 := List.getElem?_eq_some_iff.mp e
    have a2 := List.getElem?_eq_some_iff.mp e2
    have := (List.getElem_inj nd).mp (a1.2.trans a2.2.symm)
    subst this
    exact h'.1 hi
theorem getD_of {n : Nat} {a : Addr} (h : L[n]? = some a) : L.getD n 0 = a := by simp [List.getD, h]
/-- the ground of a callee -/
def G.call (g : G) (L : List Addr) (H : Hp) (idx : List Nat) : G := ⟨g.K, g.mg, g.wr L, H, addrsAt L idx⟩
theorem call_wr {idx : List Nat} (hl : ∀ i ∈ idx, i < L.length) {a : Addr} : (g.call L H idx).wr (addrsAt L idx) a ↔ g.wr L a :=
  ⟨fun w => w.elim id fun h => let ⟨_, _, e⟩ := addrsAt_mem h hl; .inr (List.mem_of_getElem? e), fun w => .inl w⟩
theorem call_obs (r : RepS g L S H) {idx : List Nat} (hl : ∀ i ∈ idx, i < L.length) : ∀ {ix : List Nat} {os : List Ob}, (∀ i ∈ ix, i ∈ idx) → obsAt S ix = some os → os.all pdOb = true →
    Paired (fun ob a => ObDen (g.call L H idx) (addrsAt L idx) H a ob) os (addrsAt L ix)
  | [], _, _, e, _ => by cases e; exact .nil
  | n :: rr, os, hs, e, n' => by
    unfold obsAt at e
    split at e
    · rename_i o os' e1 e2
      cases e
      rw [List.all_cons, Bool.and_eq_true] at n'
      obtain ⟨a, ha, od⟩ := r.ob e1
      refine .cons ?_ (call_obs r hl (fun i hi => hs i (List.mem_cons_of_mem _ hi)) e2 n'.2)
      rw [getD_of ha]
      exact od.move (g := g) (g' := g.call L H idx) rfl rfl (fun b w => (call_wr (g := g) (L := L) (H := H) (idx := idx) hl).mp w) n'.1
    · cases e
theorem call_rep (r : RepS g L S H) {idx : List Nat} {os : List Ob} (nd : idx.Nodup) (e : obsAt S idx = some os) (n : os.all pdOb = true) : RepS (g.call L H idx) (addrsAt L idx) os H := by
  have hl : ∀ i ∈ idx, i < L.length := fun i hi => by rw [← Paired.len r.obs]; exact obsAt_lt e i hi
  exact ⟨addrsAt_nodup r.nd nd hl, List.prefix_refl _, call_obs r hl (fun _ h => h) e n, fun a h na => absurd h na, fun a h na => absurd h na, fun a o q _ => q, fun a w => r.wr_there w,
    fun a h => let ⟨_, _, q⟩ := addrsAt_mem h hl; .inr (List.mem_of_getElem? q)⟩
theorem call_dens (r : RepS g L S H) {idx : List Nat} (hl : ∀ i ∈ idx, i < L.length) : ∀ {ds : List D} {vs : List V} (k : Nat), idx.drop k = refsOf ds → Dens g L H ds vs → Dens (g.call L H idx) (addrsAt L idx) H (renum k ds) vs
  | _, _, _, _, .nil => by unfold renum; exact .nil
  | .ref n :: ds, _, k, e, .cons h t => by
    unfold renum
    unfold refsOf at e
    have hk : idx[k]? = some n := by
      have := congrArg (fun l => l[0]?) e
      simpa [List.getElem?_drop] using this
    cases h with
    | ref hn =>
      refine .cons (.ref ?_) (call_dens r hl (k + 1) ?_ t)
      · rw [addrsAt_get hk, getD_of hn]
      · have := congrArg (List.drop 1) e
        simpa [List.drop_drop, Nat.add_comm] using this
  | .pd x :: ds, _, k, e, .cons h t => by
    unfold renum
    unfold refsOf at e
    exact .cons (h.move (g := g) (g' := g.call L H idx) rfl rfl (fun b w => (call_wr (g := g) (L := L) (H := H) (idx := idx) hl).mp w) rfl) (call_dens r hl k e t)
  | .glob x :: ds, _, k, e, .cons h t => by
    unfold renum
    unfold refsOf at e
    exact .cons (h.move (g := g) (g' := g.call L H idx) rfl rfl (fun b w => (call_wr (g := g) (L := L) (H := H) (idx := idx) hl).mp w) rfl) (call_dens r hl k e t)
theorem putAll_length : ∀ {idx : List Nat} {os : List Ob} {S : Sto}, (putAll S idx os).length = S.length
  | [], _, _ => by unfold putAll; rfl
  | n :: r, [], _ => by unfold putAll; rfl
  | n :: r, o :: os, S => by unfold putAll; rw [putAll_length, List.length_set]
theorem putAll_out : ∀ {idx : List Nat} {os : List Ob} {S : Sto} {i : Nat}, i ∉ idx → (putAll S idx os)[i]? = S[i]?
  | [], _, _, _, _ => by unfold putAll; rfl
  | n :: r, [], _, _, _ => by unfold putAll; rfl
  | n :: r, o :: os, S, i, h => by
    unfold putAll
    rw [putAll_out fun z => h (List.mem_cons_of_mem _ z), List.getElem?_set_ne (show n ≠ i from fun z => h (by rw [z]; exact List.mem_cons_self))]
theorem putAll_in : ∀ {idx : List Nat} {os : List Ob} {S : Sto}, idx.Nodup → (∀ i ∈ idx, i < S.length) → ∀ {j n : Nat} {o : Ob}, idx[j]? = some n → os[j]? = some o → (putAll S idx os)[n]? = some o
  | [], _, _, _, _, _, _, _, h, _ => by simp at h
  | m :: r, [], _, _, _, _, _, _, _, h => by simp at h
  | m :: r, o' :: os, S, nd, hl, 0, n, o, h1, h2 => by
    simp at h1 h2
    subst h1; subst h2
    unfold putAll
    have nd' := List.nodup_cons.mp nd
    rw [putAll_out nd'.1, List.getElem?_set_self (hl m List.mem_cons_self)]
  | m :: r, o' :: os, S, nd, hl, j + 1, n, o, h1, h2 => by
    unfold putAll
    have nd' := List.nodup_cons.mp nd
    exact putAll_in nd'.2 (fun i hi => by rw [List.length_set]; exact hl i (List.mem_cons_of_mem _ hi)) (j := j) (by simpa using h1) (by simpa using h2)
theorem prefix_eq {l l' : List Addr} (p : l <+: l') (h : l'.length = l.length) : l' = l := by
  obtain ⟨t, rfl⟩ := p
  have : t = [] := List.length_eq_zero_iff.mp (by rw [List.length_append] at h; omega)
  rw [this, List.append_nil]
theorem paired_of {α β : Type} {F : α → β → Prop} : ∀ {l : List α} {l' : List β}, l.length = l'.length → (∀ (i : Nat) a b, l[i]? = some a → l'[i]? = some b → F a b) → Paired F l l'
  | [], [], _, _ => .nil
  | [], _ :: _, h, _ => by simp at h
  | _ :: _, [], h, _ => by simp at h
  | a :: l, b :: l', h, f => .cons (f 0 a b rfl rfl) (paired_of (by simpa using h) fun i x y e1 e2 => f (i + 1) x y (by simpa using e1) (by simpa using e2))
/-- behind a call: the caller's state -/
theorem call_back (r : RepS g L S H) {idx : List Nat} {os : List Ob} {S2 : Sto} (nd : idx.Nodup) (e : obsAt S idx = some os) (h2 : S2.length = os.length) (n : S2.all pdOb = true)
    {L2 : List Addr} (x : Ext (g.call L H idx) (addrsAt L idx) H L2 H') (r2 : RepS (g.call L H idx) L2 S2 H') : L2 = addrsAt L idx ∧ Ext g L H L H' ∧ RepS g L (putAll S idx S2) H' := by
  have hl : ∀ i ∈ idx, i < L.length := fun i hi => by rw [← Paired.len r.obs]; exact obsAt_lt e i hi
  have hL : L2 = addrsAt L idx := prefix_eq x.pre (by rw [← Paired.len r2.obs, h2, obsAt_len e, addrsAt_len])
  subst hL
  have sub : ∀ a, a ∈ addrsAt L idx → a ∈ L := fun a h => let ⟨_, _, q⟩ := addrsAt_mem h hl; List.mem_of_getElem? q
  have x' : Ext g L H L H' := ⟨List.prefix_refl _, fun _ h n => absurd h n, fun a o q na => x.keep a o q fun z => na (sub a z), x.there⟩
  refine ⟨rfl, x', r.nd, r.pre, paired_of (by rw [putAll_length]; exact Paired.len r.obs) fun i ob a e1 e2 => ?_, r.fresh, r.own, fun a o q na => ?_, fun a w => r2.amb a (.inl w), r.asW⟩
  · by_cases hi : i ∈ idx
    · obtain ⟨j, hj, ej⟩ := List.mem_iff_getElem.mp hi
      have ej' : idx[j]? = some i := by rw [List.getElem?_eq_getElem hj, ej]
      have hjS : j < S2.length := by rw [h2, obsAt_len e]; exact hj
      have eo : S2[j]? = some S2[j] := List.getElem?_eq_getElem hjS
      have := putAll_in (S := S) nd (fun i hi => obsAt_lt e i hi) ej' eo
      rw [this] at e1
      obtain ⟨a2, ea, od⟩ := Paired.get r2.obs eo
      have ea2 := addrsAt_get (L := L) ej'
      rw [ea2, getD_of e2] at ea
      cases ea
      cases e1
      refine od.move (g := g.call L H idx) (g' := g) rfl rfl (fun b w => (call_wr (g := g) (L := L) (H := H) (idx := idx) hl).mpr w) (List.all_eq_true.mp n _ (List.getElem_mem hjS))
    · rw [putAll_out hi] at e1
      obtain ⟨a2, ea, od⟩ := Paired.get r.obs e1
      rw [e2] at ea
      cases ea
      refine od.ext r x' fun o q => x.keep a o q fun z => ?_
      obtain ⟨j, hj, q2⟩ := addrsAt_mem z hl
      have a1 := List.getElem?_eq_some_iff.mp e2
      have a3 := List.getElem?_eq_some_iff.mp q2
      have := (List.getElem_inj r.nd).mp (a1.2.trans a3.2.symm)
      subst this
      exact hi hj
  · refine x.keep a o (r.keep a o q na) fun z => ?_
    have := r.fresh a (sub a z) na
    rw [q] at this; cases this
variable {X : Cx} {ml : DM (List D)} {es : List Expr} {e : Expr} {p pos : Pos} {x : Str} {k n : Nat} {f : Addr} {fd : FuncData} {ps : List Str} {fm : DF}
theorem call_reads (hK : X.K = g.K) (hmg : X.mg = g.mg) {Q : VK} (h : T g E (mBind ml (callF n fm)) σ H Q) : TL g E ml σ H (fun vs H1 => spM X.K X.mg n fm (vs ++ []) H1 Q (WE E σ)) := by
  obtain ⟨L, σd, S, rp, sl, ev⟩ := h
  refine ⟨L, σd, S, rp, sl, ev.step fun ds S1 L1 H1 x1 r1 ev1 vs dn => ?_⟩
  show spM X.K X.mg n fm (vs ++ []) H1 Q (WE E σ)
  rw [List.append_nil]
  unfold callF at ev1
  split at ev1
  · rename_i os eo
    split at ev1
    · rename_i hc
      obtain ⟨hn, nd, hp⟩ := hc
      have hl : ∀ i ∈ refsOf ds, i < L1.length := fun i hi => by rw [← Paired.len r1.obs]; exact obsAt_lt eo i hi
      refine ⟨by rw [← Paired.len dn]; exact hn, g.wr L1, addrsAt L1 (refsOf ds), renum 0 ds, os, ?_, ?_, ?_⟩
      · rw [hK, hmg]; exact call_rep r1 nd eo hp
      · rw [hK, hmg]; exact call_dens r1 hl 0 rfl dn
      · rw [hK, hmg]
        show Ev (g.call L1 H1 (refsOf ds)) _ _ _ _ _
        split at ev1
        · rename_i d S2 ef
          split at ev1
          · rename_i hd
            rw [ef]
            intro L' H' x r' v dn'
            obtain ⟨rfl, x2, r2⟩ := call_back r1 nd eo hd.1 hd.2.2 x r'
            exact ev1 L1 H' x2 r2 v (dn'.move (g := g.call L1 H1 (refsOf ds)) (g' := g) rfl rfl (fun b w => (call_wr (g := g) (L := L1) (H := H1) (idx := refsOf ds) hl).mpr w) hd.2.1)
          · exact ev1.elim
        · rename_i ex _ S2 ef
          split at ev1
          · rename_i hd
            rw [ef]
            intro L' H' c y σ' x r' _ dn'
            obtain ⟨rfl, x2, r2⟩ := call_back r1 nd eo hd.1 hd.2.1 x r'
            exact ev1 L1 H' c y σ x2 r2 ((sl.ext rp x1).ext r1 x2) (dn'.move (g := g.call L1 H1 (refsOf ds)) (g' := g) rfl rfl (fun b w => (call_wr (g := g) (L := L1) (H := H1) (idx := refsOf ds) hl).mpr w) hd.2.2)
          · exact ev1.elim
        · exact ev1.elim
    · exact ev1.elim
  · exact ev1.elim
/-- f(e, ..) -/
theorem px_call (F : FnG X.prog X.w X.K X.mg X.base k f fd ps (spM X.K X.mg n fm)) (hr : RoomG k X.A) (hg : Gl X x) (hm : X.mg x = some (.ref f)) (hk : PySem.W.keepIn X.K (.ref f) = true) (hb : Binds X.K fd ps [])
    (hK : X.K = g.K) (hmg : X.mg = g.mg) (tk : Takes X E) (ha : PA X (e :: es) (TL g E ml)) (hdb : (x == ("__debug__" : Str)) = false := by decide) (he : starEach (e :: es) X.env = (false, eval e X.env) :: starEach es X.env := by rfl)
    (hpl : (backTo pos (starEach es X.env)).any (·.1) = false := by rfl) : PE X (.Call (.Name x p) (e :: es) [] pos) (T g E (mBind ml (callF n fm))) :=
  PE.imp (pe_callG (E := fun σ => WE E σ) F hr hg hm hk hb (fun σ => passAt tk σ) ha hdb he hpl) fun σ H Q h => by simpa only [List.append_nil] using call_reads hK hmg h
end
end DL
end
section
namespace DL
open PySem PySem.Spec PyProof.Rows L2

/-! ### statements -/
def sNext : DM Fl := fun σ S => .ok (.next σ) S
def sSeq (a b : DM Fl) : DM Fl := fun σ S => (a σ S).bind fun f S' => match f with
  | .next σ' => b σ' S'
  | f => .ok f S'
def sSet (i : Nat) (m : DM D) : DM Fl := fun σ S => (m σ S).bind fun d S' => .ok (.next (σ.set i (some d))) S'
def sExpr (m : DM D) : DM Fl := fun σ S => (m σ S).bind fun _ S' => .ok (.next σ) S'
def sRet (m : DM D) : DM Fl := fun σ S => (m σ S).bind fun d S' => .ok (.ret d) S'
def sRetN : DM Fl := fun _ S => .ok (.ret .non) S
def sIf (c : DM Bool) (a b : DM Fl) : DM Fl := fun σ S => (c σ S).bind fun k S' => if k then a σ S' else b σ S'
def sBrk : DM Fl := fun σ S => .ok (.brk σ) S
def sCont : DM Fl := fun σ S => .ok (.cont σ) S
section
variable {g g' : G} {E : WX} {L L' : List Addr} {H H' : Hp} {S S' : Sto} {σd : Sl} {σ : St} {v : V} {d : D}
variable {X : Cx} {a b c : Stmt} {as bs : List Stmt} {ma mb : DM Fl} {me : DM D} {nc : DM Bool} {e : Expr} {pos : Pos}
theorem SlDen.put (h : SlDen g L H σd σ) (dn : Den g L H d v) (i : Nat) (hl : i < σ.length) : SlDen g L H (σd.set i (some d)) (σ.set i (some v)) := by
  intro j d' e
  by_cases hj : i = j
  · subst hj
    by_cases hi : i < σd.length
    · rw [List.getElem?_set_self hi] at e
      cases e
      exact ⟨v, List.getElem?_set_self hl, dn⟩
    · rw [List.getElem?_eq_none (by rw [List.length_set]; omega)] at e
      cases e
  · rw [List.getElem?_set_ne hj] at e
    obtain ⟨w, e2, q⟩ := h j d' e
    exact ⟨w, by rw [List.getElem?_set_ne hj]; exact e2, q⟩
theorem qs_nil : PSs X [] (TSt g E sNext) := PSs.imp pss_nil fun D σ H ⟨L, σd, S, rp, sl, ev⟩ => ev.ok rp σ sl
theorem qs_cons (h1 : PS X a (TSt g E ma)) (h2 : PSs X bs (TSt g E mb)) : PSs X (a :: bs) (TSt g E (sSeq ma mb)) :=
  PSs.imp (pss_cons h1 h2) fun D σ H ⟨L, σd, S, rp, sl, ev⟩ => ⟨L, σd, S, rp, sl, (Ev.bind ev).imp fun f S' L' H' x r' ev' => by
    cases f with
    | next σd' => exact fun σ' sl' => ⟨L', σd', S', r', sl', ev'⟩
    | ret d => exact ev'.ok r'
    | brk d => exact ev'.ok r'
    | cont d => exact ev'.ok r'⟩
theorem qs_one (h1 : PS X a (TSt g E ma)) : PSs X [a] (TSt g E ma) := pss_one h1
theorem qs_last (h1 : PS X a (TSt g E ma)) : PSs X [a] (TSt g E ma) := pss_one h1
/-- name = e; σ's length is the names' -/
theorem len_of {X : Cx} {t : TE} (h : PE X e t) : PE X e (fun σ H Q => σ.length = X.N.length → t σ H Q) := ⟨fun p s σ H Q I q => h.run p s σ H Q I (q I.len)⟩
theorem SlDen.put' (h : SlDen g L H σd σ) (dn : Den g L H d v) (i : Nat) : SlDen g L H (σd.set i (some d)) (σ.set i (some v)) ∨ ¬ i < σ.length := by
  by_cases hl : i < σ.length
  · exact .inl (h.put dn i hl)
  · exact .inr hl
end
section
variable {g g' : G} {E : WX} {L L' : List Addr} {H H' : Hp} {S S' : Sto} {σd : Sl} {σ : St} {v : V} {d : D}
variable {X : Cx} {a b c : Stmt} {as bs : List Stmt} {ma mb : DM Fl} {me : DM D} {nc : DM Bool} {e : Expr} {pos : Pos}
theorem PS.len {st : Stmt} {t : TS} (h : PS X st t) : PS X st (fun D σ H => σ.length = X.N.length → t D σ H) := ⟨fun p s σ H D I q => h.run p s σ H D I (q I.len)⟩
theorem PG.len {tg : Expr} {t : TG} (h : PG X tg t) : PG X tg (fun v σ H Q => σ.length = X.N.length → t v σ H Q) := ⟨fun p s σ H v u Q I r q => h.run p s σ H v u Q I r (q I.len)⟩
theorem qs_set {i : Nat} {x : Str} {pos' : Pos} (hN : X.N.Nodup) (hi : X.N[i]? = some x) (hx : Loc X.env.scope x) (he : PE X e (T g E me)) (hs : swapsWith e (some (.Name x pos')) pos.line X.env = pure false := by rfl) (hf : X.fn x = true ∨ X.env.scope.names.lookup x = some .local := by first | exact .inl rfl | exact .inr rfl | assumption) :
    PS X (.Assign [.Name x pos'] e pos) (TSt g E (sSet i me)) :=
  PS.imp (PS.len (ps_set hN hi hx he hs hf)) fun D σ H ⟨L, σd, S, rp, sl, ev⟩ hl => ⟨L, σd, S, rp, sl, (Ev.bind ev).imp fun d S' L' H' x r' ev' v dn => by
    have hl2 : i < σ.length := by rw [hl]; exact (List.getElem?_eq_some_iff.mp hi).1
    exact ev'.ok r' _ ((sl.ext rp x).put dn i hl2)⟩
theorem qs_expr (he : PE X e (T g E me)) (hs : swapsWith e none pos.line X.env = pure false := by rfl) : PS X (.Expr e pos) (TSt g E (sExpr me)) :=
  PS.imp (ps_expr he hs) fun D σ H ⟨L, σd, S, rp, sl, ev⟩ => ⟨L, σd, S, rp, sl, (Ev.bind ev).imp fun d S' L' H' x r' ev' v dn => ev'.ok r' σ (sl.ext rp x)⟩
theorem qs_doc {y j pos pos'} : PS X (.Expr (.Constant (.str y) j pos) pos') (TSt g E sNext) := PS.imp ps_doc fun D σ H ⟨L, σd, S, rp, sl, ev⟩ => ev.ok rp σ sl
theorem qs_pass : PS X (.Pass pos) (TSt g E sNext) := PS.imp ps_pass fun D σ H ⟨L, σd, S, rp, sl, ev⟩ => ev.ok rp σ sl
theorem qs_break : PS X (.Break pos) (TSt g E sBrk) := PS.imp ps_break fun D σ H ⟨L, σd, S, rp, sl, ev⟩ => ev.ok rp σ sl
theorem qs_continue : PS X (.Continue pos) (TSt g E sCont) := PS.imp ps_continue fun D σ H ⟨L, σd, S, rp, sl, ev⟩ => ev.ok rp σ sl
theorem qs_ret (he : PE X e (T g E me)) : PS X (.Return (some e) pos) (TSt g E (sRet me)) :=
  PS.imp (ps_ret he) fun D σ H ⟨L, σd, S, rp, sl, ev⟩ => ⟨L, σd, S, rp, sl, (Ev.bind ev).imp fun d S' L' H' x r' ev' v dn => ev'.ok r' v dn⟩
theorem qs_retN : PS X (.Return none pos) (TSt g E sRetN) := PS.imp ps_retN fun D σ H ⟨L, σd, S, rp, sl, ev⟩ => ev.ok rp .non (.pd .non)
theorem qs_if {c : Expr} (hc : PT X c (TB g E nc)) (ha : PSs X as (TSt g E ma)) (hb : PSs X bs (TSt g E mb)) : PS X (.If c as bs pos) (TSt g E (sIf nc ma mb)) :=
  PS.imp (ps_if hc ha hb) fun D σ H ⟨L, σd, S, rp, sl, ev⟩ => ⟨L, σd, S, rp, sl, (Ev.bind ev).imp fun k S' L' H' x r' ev' => by
    cases k with
    | true => exact ⟨L', σd, S', r', sl.ext rp x, ev'⟩
    | false => exact ⟨L', σd, S', r', sl.ext rp x, ev'⟩⟩
/-- what is not come to -/
def sNever : DM Fl := fun _ _ => .stuck
theorem qs_never : PS X a (TSt g E sNever) := PS.imp ps_never fun D σ H ⟨L, σd, S, rp, sl, ev⟩ => ev
theorem qss_never : PSs X as (TSt g E sNever) := PSs.imp pss_never fun D σ H ⟨L, σd, S, rp, sl, ev⟩ => ev
end

/-! ### targets -/
abbrev TgD := D → Sl → Option Sl
def tgName (i : Nat) : TgD := fun d σ => some (σ.set i (some d))
abbrev TgsD := List D → Sl → Option Sl
def tgNil : TgsD := fun ds σ => match ds with
  | [] => some σ
  | _ => none
def tgCons (t : TgD) (u : TgsD) : TgsD := fun ds σ => match ds with
  | d :: r => (t d σ).bind (u r)
  | [] => none
def tgTup (t : TgsD) : TgD := fun d σ => match d with
  | .pd (.tuple ds) => t (ds.map .pd) σ
  | _ => none
def GT (g : G) (t : TgD) : TG := fun v σ H Q => ∃ L σd S d σd', RepS g L S H ∧ SlDen g L H σd σ ∧ Den g L H d v ∧ t d σd = some σd' ∧ ∀ σ', SlDen g L H σd' σ' → Q σ' H
def GTs (g : G) (t : TgsD) : TGs := fun vs σ H Q => ∃ L σd S ds σd', RepS g L S H ∧ SlDen g L H σd σ ∧ Dens g L H ds vs ∧ t ds σd = some σd' ∧ ∀ σ', SlDen g L H σd' σ' → Q σ' H
section
variable {g g' : G} {E : WX} {L L' : List Addr} {H H' : Hp} {S S' : Sto} {σd : Sl} {σ : St} {v : V} {d : D}
variable {X : Cx} {e : Expr} {es : List Expr} {pos : Pos} {me : DM D} {t : TgD} {u : TgsD}
theorem gx_name {i : Nat} {x : Str} (hN : X.N.Nodup) (hi : X.N[i]? = some x) (hx : Loc X.env.scope x) (hf : X.fn x = true ∨ X.env.scope.names.lookup x = some .local := by first | exact .inl rfl | exact .inr rfl | assumption) : PG X (.Name x pos) (GT g (tgName i)) :=
  PG.imp (PG.len (pg_name hN hi hx hf)) fun v σ H Q ⟨L, σd, S, d, σd', rp, sl, dn, e, q⟩ hl => by
    have hl2 : i < σ.length := by rw [hl]; exact (List.getElem?_eq_some_iff.mp hi).1
    cases e
    exact q _ (sl.put dn i hl2)
theorem gx_nil : PGs X [] (GTs g tgNil) := PGs.imp pgs_nil fun v σ H Q ⟨L, σd, S, ds, σd', rp, sl, dn, e, q⟩ => by
  unfold tgNil at e
  split at e
  · cases e; cases dn; exact ⟨rfl, q σ sl⟩
  · cases e
theorem gx_cons (h1 : PG X e (GT g t)) (h2 : PGs X es (GTs g u)) (hs : (assignEach (e :: es) X.env).map (·.2) = assign e X.env :: (assignEach es X.env).map (·.2) := by rfl) : PGs X (e :: es) (GTs g (tgCons t u)) :=
  PGs.imp (pgs_cons h1 h2 hs) fun v σ H Q ⟨L, σd, S, ds, σd', rp, sl, dn, e, q⟩ => by
    unfold tgCons at e
    split at e
    · rename_i d r
      cases dn with
      | cons d1 d2 =>
        cases e1 : t d σd with
        | none => rw [e1] at e; cases e
        | some σ1 =>
          rw [e1] at e
          exact ⟨_, _, rfl, L, σd, S, d, σ1, rp, sl, d1, e1, fun σ' sl' => ⟨L, σ1, S, r, σd', rp, sl', d2, e, q⟩⟩
    · cases e
theorem GT.tup {k n : Nat} (hK : X.K = g.K) (hc : X.calm = true) (h : PGs X es (GTs g u)) (hn : (assignEach es X.env).length = n := by rfl) (hst : (assignEach es X.env).findIdx? (·.1) = none := by rfl)
    (hu : ∀ ds σd σd', u ds σd = some σd' → ds.length = n) : PG X (.Tuple es k pos) (GT g (tgTup u)) :=
  PG.imp (pg_tup hc h hn hst) fun v σ H Q ⟨L, σd, S, d, σd', rp, sl, dn, e, q⟩ => by
    unfold tgTup at e
    split at e
    · rename_i ds
      obtain ⟨a, vs, rfl, rd, dz⟩ := den_tup dn
      rw [← hK] at rd
      refine ⟨a, vs, rfl, rd, ?_, L, σd, S, _, σd', rp, sl, dz.dens, e, q⟩
      rw [dz.len, ← hu _ _ _ e, List.length_map]
    · cases e
/-- .. of a list too -/
def tgSeq (t : TgsD) (S : Sto) : TgD := fun d σ => match asQ S d with
  | some ds => t ds σ
  | none => none
theorem tgCons_len {n : Nat} (hu : ∀ ds σd σd', u ds σd = some σd' → ds.length = n) : ∀ ds σd σd', tgCons t u ds σd = some σd' → ds.length = n + 1 := by
  intro ds σd σd' e
  unfold tgCons at e
  split at e
  · rename_i d r
    cases e1 : t d σd with
    | none => rw [e1] at e; cases e
    | some σ1 => rw [e1] at e; rw [List.length_cons, hu _ _ _ e]
  · cases e
theorem tgNil_len : ∀ ds σd σd', tgNil ds σd = some σd' → ds.length = 0 := by
  intro ds σd σd' e
  unfold tgNil at e
  split at e
  · rfl
  · cases e
/-- target = e -/
def sAsg (t : TgD) (m : DM D) : DM Fl := fun σ S => (m σ S).bind fun d S' => match t d σ with
  | some σ' => .ok (.next σ') S'
  | none => .stuck
theorem qs_asg {tg : Expr} (he : PE X e (T g E me)) (hg : PG X tg (GT g t)) (hs : swapsWithSole [tg] e pos.line X.env = pure false := by rfl) (hw : swappedStores [tg] e X.env = pure none := by rfl)
    (h1 : (assignEach [tg] X.env).map (·.2) = [assign tg X.env] := by rfl) : PS X (.Assign [tg] e pos) (TSt g E (sAsg t me)) :=
  PS.imp (ps_asg he hg hs hw h1) fun D σ H ⟨L, σd, S, rp, sl, ev⟩ => ⟨L, σd, S, rp, sl, (Ev.bind ev).imp fun d S' L' H' x r' ev' v dn => by
    cases e1 : t d σd with
    | none => rw [e1] at ev'; exact ev'.elim
    | some σ1 =>
      rw [e1] at ev'
      exact ⟨L', σd, S', d, σ1, r', sl.ext rp x, dn, e1, fun σ' sl' => ev'.ok r' σ' sl'⟩⟩
/-- a, b = a list of two (the library's unpacking of a list) -/
def sUnl (t : TgsD) (m : DM D) : DM Fl := fun σ S => (m σ S).bind fun d S' => match asL S' d with
  | some ds => (match t ds σ with
    | some σ' => .ok (.next σ') S'
    | none => .stuck)
  | none => .stuck
/-- o[i] = e, a list -/
def setIx (S : Sto) (o i d : D) : Option Sto := match o, i with
  | .ref n, .pd (.int k) => match S[n]? with
    | some (.lst xs) => match ixN xs.length k with
      | some j => some (S.set n (.lst (xs.set j d)))
      | none => none
    | _ => none
  | _, _ => none
def sSetIx (o i m : DM D) : DM Fl := fun σ S => (m σ S).bind fun d S1 => (o σ S1).bind fun x S2 => (i σ S2).bind fun y S3 => match setIx S3 x y d with
  | some S4 => .ok (.next σ) S4
  | none => .stuck
theorem qs_setIx {o i : Expr} {mo mi : DM D} {pos' : Pos} (ho : PE X o (T g E mo)) (hi : PE X i (T g E mi)) (he : PE X e (T g E me))
    (ha : ∀ v, assign (.Subscript o i pos') X.env v = (do
      let ov ← holding [v] (eval o X.env)
      let iv ← holding [v, ov] (eval i X.env)
      standAt pos'
      holding [v, ov, iv] (setItem ov iv v)
      release [v, ov, iv] []) := by intro _; rfl)
    (hs : swapsWithSole [.Subscript o i pos'] e pos.line X.env = pure false := by rfl) (hw : swappedStores [.Subscript o i pos'] e X.env = pure none := by rfl)
    (h1 : (assignEach [.Subscript o i pos'] X.env).map (·.2) = [assign (.Subscript o i pos') X.env] := by rfl) : PS X (.Assign [.Subscript o i pos'] e pos) (TSt g E (sSetIx mo mi me)) :=
  PS.imp (ps_asg he (pg_sub ho hi set_list ha) hs hw h1) fun D σ H ⟨L, σd, S, rp, sl, ev⟩ => ⟨L, σd, S, rp, sl, (Ev.bind ev).imp fun d S1 L1 H1 x1 r1 ev1 v dn =>
    ⟨L1, σd, S1, r1, sl.ext rp x1, (Ev.bind ev1).imp fun o S2 L2 H2 x2 r2 ev2 ov no => ⟨L2, σd, S2, r2, (sl.ext rp x1).ext r1 x2, (Ev.bind ev2).imp fun i S3 L3 H3 x3 r3 ev3 iv ni => by
      have sl3 := ((sl.ext rp x1).ext r1 x2).ext r2 x3
      have no3 := no.ext r2 x3
      have dn3 := (dn.ext r1 x2).ext r2 x3
      cases es : setIx S3 o i d with
      | none => rw [es] at ev3; exact ev3.elim
      | some S4 =>
        rw [es] at ev3
        unfold setIx at es
        split at es
        · rename_i n k
          cases den_int ni
          cases no3 with
          | @ref _ a hn =>
            split at es
            · rename_i xs hx
              split at es
              · rename_i j hj
                cases es
                obtain ⟨a', ha', od⟩ := r3.ob hx
                rw [hn] at ha'
                cases ha'
                cases od with
                | @lst _ vs q dz =>
                  have hlen := Paired.len dz
                  refine ⟨a, vs, k, j, rfl, rfl, q, by rw [← hlen]; exact hj, ?_⟩
                  have xw : Ext g L3 H3 L3 (upd H3 a (.lst (vs.set j v))) := Ext.write hn
                  exact ev3 L3 _ xw (r3.write hn ⟨fun _ => by simp, fun _ _ => by simp⟩ (.lst upd_same (Paired.setR (dn3.ext r3 xw) (dz.ext r3 xw) j))) σ (sl3.ext r3 xw)
              · cases es
            · cases es
        · cases es⟩⟩⟩
/-- name op= e -/
def sAug (i : Nat) (op : D → D → Sto → Out D) (m : DM D) : DM Fl := fun σ S => match σ[i]? with
  | some (some x) => (m σ S).bind fun y S1 => (op x y S1).bind fun z S2 => .ok (.next (σ.set i (some z))) S2
  | _ => .stuck
theorem qs_aug {i : Nat} {x : Str} {op : Operator} {f : D → D → Sto → Out D} {pos' : Pos} (hN : X.N.Nodup) (hi : X.N[i]? = some x) (hx : Loc X.env.scope x) (he : PE X e (T g E me)) (ho : OpX X g (inplaceOp op) f) (hf : X.fn x = true ∨ X.env.scope.names.lookup x = some .local := by first | exact .inl rfl | exact .inr rfl | assumption) :
    PS X (.AugAssign (.Name x pos') op e pos) (TSt g E (sAug i f me)) :=
  PS.imp (PS.len (ps_aug hN hi hx he (ho E) hf)) fun D σ H ⟨L, σd, S, rp, sl, ev⟩ hl => by
    unfold sAug at ev
    split at ev
    · rename_i d e1
      obtain ⟨v, e2, dn⟩ := sl i d e1
      refine ⟨v, e2, L, σd, S, rp, sl, (Ev.bind ev).imp fun y S1 L1 H1 x1 r1 ev1 w dw => ⟨L1, S1, d, y, r1, dn.ext rp x1, dw, (Ev.bind ev1).imp fun z S2 L2 H2 x2 r2 ev2 zv nz => ?_⟩⟩
      have hl2 : i < σ.length := by rw [hl]; exact (List.getElem?_eq_some_iff.mp hi).1
      exact ev2.ok r2 _ (((sl.ext rp x1).ext r1 x2).put nz i hl2)
    · exact ev.elim
end
end DL
end
section
namespace DL
open PySem PySem.Spec PyProof.Rows L2
open Classical

/-! ### what is walked -/
inductive Gu where
  | no
  | at (n : Nat) (ob : Ob)
def Gu.ok : Gu → Sto → Prop
  | .no, _ => True
  | .at n ob, S => S[n]? = some ob
structure Wk where
  items : List D
  gu : Gu
/-- another ground in which the same data stands -/
structure Gx (g g' : G) (H0 : Hp) : Prop where
  K : g'.K = g.K
  mg : g'.mg = g.mg
  W : ∀ a, g'.W a → g.W a ∨ H0 a = none
def DWalk (g : G) (wk : Wk) (L0 : List Addr) (H0 : Hp) (J : It) : Prop := ∀ g' L S H, Gx g g' H0 → Ext g L0 H0 L H → RepS g' L S H → wk.gu.ok S →
  (∀ i d, wk.items[i]? = some d → J.go i H ∧ ∀ x H', J.yld i H x H' → Ext g L H L H' ∧ RepS g' L S H' ∧ Den g' L H' d x) ∧ J.stop wk.items.length H
def TW (g : G) (E : WX) (m : DM Wk) : TI := fun σ H R => ∃ L σd S, RepS g L S H ∧ SlDen g L H σd σ ∧ Ev g E L H (m σd S) (fun wk _ L' H' => ∀ J, DWalk g wk L' H' J → R J H')
theorem PI.imp {X : Cx} {tg e : Expr} {t t' : TI} (h : PI X tg e t) (i : ∀ σ H R, t' σ H R → t σ H R) : PI X tg e t' := ⟨fun p s σ H R I q => h.run p s σ H R I (i σ H R q)⟩
section
variable {g g' : G} {E : WX} {L L' L0 : List Addr} {H H' H0 : Hp} {S S' : Sto} {σd : Sl} {σ : St} {v : V} {d : D}
theorem kpx (r : RepS g L0 S H0) (gx : Gx g g' H0) (x : Ext g L0 H0 L H) : Kp (g.wr L0) (g'.wr L) H0 H where
  keep := fun a o e n => x.keep a o e fun h => n (.inr h)
  fixed := fun a o e n h => by
    rcases h with h | h
    · rcases gx.W a h with h | h
      · exact n (.inl h)
      · rw [e] at h; cases h
    · have := x.new a h fun h' => n (.inr h')
      rw [e] at this; cases this
  tups := (kp r x).tups
theorem Den.gx (r : RepS g L0 S H0) (gx : Gx g g' H0) (x : Ext g L0 H0 L H) (h : Den g L0 H0 d v) : Den g' L H d v := by
  cases h with
  | pd h => exact .pd (gx.K ▸ h.keep (kpx r gx x))
  | ref h =>
    obtain ⟨t, rfl⟩ := x.pre
    exact .ref (by rw [List.getElem?_append_left (List.getElem?_eq_some_iff.mp h).1]; exact h)
  | glob h => exact .glob (by rw [gx.mg]; exact h)
theorem Dens.gx (r : RepS g L0 S H0) (gx : Gx g g' H0) (x : Ext g L0 H0 L H) {ds : List D} {vs : List V} (h : Dens g L0 H0 ds vs) : Dens g' L H ds vs := Paired.imp h fun _ _ q => q.gx r gx x
theorem Ext.any {g2 : G} (x : Ext g L H L' H') : Ext g2 L H L' H' := ⟨x.pre, x.new, x.keep, x.there⟩
def guOf (S : Sto) : D → Gu
  | .ref n => match S[n]? with
    | some ob => .at n ob
    | none => .no
  | _ => .no
/-- the walk of a list, a tuple -/
def wkSeq (d : D) : DM Wk := fun _ S => match asQ S d with
  | some xs => .ok ⟨xs, guOf S d⟩ S
  | none => .stuck
theorem seq_stays (r : RepS g L0 S H0) (dn : Den g L0 H0 d v) {xs : List D} (e : asQ S d = some xs) : ∃ a vs, v = .ref a ∧ Dens g L0 H0 xs vs ∧
    ((SqL g.K H0 a vs ∧ ∀ g' L S' H, Gx g g' H0 → Ext g L0 H0 L H → RepS g' L S' H → (guOf S d).ok S' → ∃ ws, SqL g.K H a ws ∧ Dens g' L H xs ws) ∨
     (SqT g.K H0 a vs ∧ ∀ g' L S' H, Gx g g' H0 → Ext g L0 H0 L H → RepS g' L S' H → (guOf S d).ok S' → SqT g.K H a vs)) := by
  unfold asQ at e
  split at e
  · rename_i ys
    cases e
    obtain ⟨a, vs, rfl, rd, dz⟩ := den_tup dn
    refine ⟨a, vs, rfl, dz.dens, .inr ⟨rd, fun g' L S' H gx x r' _ => SqT.keep rd fun zs hz o e' => x.keep a o e' fun hm => ?_⟩⟩
    obtain ⟨o2, e2, nt⟩ := r.there hm
    rcases hz with hz | ⟨o3, hz⟩
    · rw [hz] at e2; cases e2; exact nt.1 zs rfl
    · rw [hz] at e2; cases e2; exact nt.2 o3 zs rfl
  · unfold asL at e
    split at e
    · cases e
      cases dn with
      | pd h =>
        cases h with
        | @lst a vs _ nw rd dz =>
          refine ⟨a, vs, rfl, dz.dens, .inl ⟨.inl rd, fun g' L S' H gx x r' _ => ⟨vs, .inl (Rd.keep rd fun o e' => x.keep a o e' fun hm => nw (.inr hm)), dz.dens.gx r gx x⟩⟩⟩
    · rename_i n
      cases dn with
      | @ref _ a hn =>
        split at e
        · rename_i xs' hs
          cases e
          obtain ⟨a', ha, od⟩ := r.ob hs
          rw [hn] at ha
          cases ha
          cases od with
          | lst q ds =>
            refine ⟨a, _, rfl, ds, .inl ⟨.inl (.inl q), fun g' L S' H gx x r' gu => ?_⟩⟩
            simp only [guOf, hs, Gu.ok] at gu
            obtain ⟨a2, ha2, od2⟩ := r'.ob gu
            obtain ⟨t, rfl⟩ := x.pre
            rw [List.getElem?_append_left (List.getElem?_eq_some_iff.mp hn).1, hn] at ha2
            cases ha2
            cases od2 with
            | lst q2 ds2 => exact ⟨_, .inl (.inl q2), ds2⟩
        · cases e
    · cases e
variable {X : Cx} {tg e : Expr} {me : DM D} {pos p : Pos}
theorem Dens.getR {ds : List D} {vs : List V} (h : Dens g L H ds vs) {i : Nat} (e : ds[i]? = some d) : ∃ v, vs[i]? = some v ∧ Den g L H d v := Paired.get h e
def iSeq (m : DM D) : DM Wk := mBind m wkSeq

def iSeqT (K : PySem.W.Frag) (tl : TE) : TI := fun σ H R => tl σ H fun x H1 => ∃ a, x = .ref a ∧ ((∃ xs, SqL K H1 a xs ∧ R (Itl K a) H1) ∨ (∃ xs, SqT K H1 a xs ∧ R (Itt K a) H1))
theorem pi_seq {l : Expr} {tl : TE} (hl : PE X l tl) : PI X tg l (iSeqT X.K tl) := by
  refine ⟨fun pins s σ H R I h => ?_⟩
  refine thn (hl.run pins s σ H _ I h) fun v s1 ⟨x, H1, I1, r1, q1⟩ => ?_
  obtain ⟨a, e, q⟩ := q1
  subst e
  cases r1
  rcases q with ⟨xs, hq, q⟩ | ⟨xs, hq, q⟩
  · obtain ⟨its, rv, p, hz⟩ := I1.list hq
    refine wpAny_pyIter_list p.isList ?_
    refine ⟨s1.heap.objs.size, [s1.heap.objs.size], _, _, H1, rfl, I1.kept (t' := s1.toks) fun b o e => Heap.get?_push_of_some _ e, turn_list a _, ⟨_, Heap.get?_push_size _ rfl, rfl, rfl⟩, fun b hb => ?_, q⟩
    have e : b = s1.heap.objs.size := by simpa using hb
    subst e
    exact I1.fpOk (Nat.le_refl _) (I1.hok.fresh (Nat.le_refl _))
  · obtain ⟨its, rv, p, hz⟩ := I1.tuple hq
    refine wpAny_pyIter_tuple (show s1.heap.IsTuple a its.toArray from p) ?_
    refine ⟨s1.heap.objs.size, [s1.heap.objs.size], _, _, H1, rfl, I1.kept (t' := s1.toks) fun b o e => Heap.get?_push_of_some _ e, turn_tuple a _, ⟨_, Heap.get?_push_size _ rfl, rfl, rfl⟩, fun b hb => ?_, q⟩
    have e : b = s1.heap.objs.size := by simpa using hb
    subst e
    exact I1.fpOk (Nat.le_refl _) (I1.hok.fresh (Nat.le_refl _))
/-- for x in a list, a tuple -/
theorem ix_seq (hK : X.K = g.K) (he : PE X e (T g E me)) : PI X tg e (TW g E (iSeq me)) :=
  PI.imp (pi_seq he) fun σ H R ⟨L, σd, S, rp, sl, ev⟩ => ⟨L, σd, S, rp, sl, ev.step fun d S1 L1 H1 x1 r1 ev1 v dn => by
    unfold wkSeq at ev1
    split at ev1
    · rename_i xs ex
      have fin := ev1.ok r1
      obtain ⟨a, vs, rfl, ds, hh⟩ := seq_stays r1 dn ex
      rw [hK]
      rcases hh with ⟨hq, st⟩ | ⟨hq, st⟩
      · refine ⟨a, rfl, .inl ⟨vs, hq, fin _ fun g' L S H gx x r' gu => ?_⟩⟩
        obtain ⟨ws, hw, dw⟩ := st g' L S H gx x r' gu
        refine ⟨fun i d e => ?_, ws, hw, by rw [Paired.len dw]; exact Nat.le_refl _⟩
        obtain ⟨y, ey, dy⟩ := Paired.get dw e
        refine ⟨⟨ws, y, hw, ey⟩, fun z H' hz => ?_⟩
        obtain ⟨rfl, hz⟩ := hz
        have := hz ws hw
        rw [ey] at this
        cases this
        exact ⟨Ext.refl, r', dy⟩
      · refine ⟨a, rfl, .inr ⟨vs, hq, fin _ fun g' L S H gx x r' gu => ?_⟩⟩
        have hw := st g' L S H gx x r' gu
        refine ⟨fun i d e => ?_, vs, hw, by rw [Paired.len ds]; exact Nat.le_refl _⟩
        obtain ⟨y, ey, dy⟩ := Paired.get ds e
        refine ⟨⟨vs, y, hw, ey⟩, fun z H' hz => ?_⟩
        obtain ⟨rfl, hz⟩ := hz
        have := hz vs hw
        rw [ey] at this
        cases this
        exact ⟨Ext.refl, r', dy.gx r1 gx x⟩
    · exact ev1.elim⟩
/-- ints lo, lo + 1, .. -/
def wkRange (lo : Int) (n : Nat) : Wk := ⟨(List.range n).map fun (i : Nat) => D.int (lo + i), .no⟩
theorem range_walk {lo : Int} {n : Nat} : DWalk g (wkRange lo n) L0 H0 (Itr lo n) := fun g' L S H gx x r _ =>
  ⟨fun i d e => by
    unfold wkRange at e
    rw [List.getElem?_map] at e
    cases q : (List.range n)[i]? with
    | none => rw [q] at e; cases e
    | some j =>
      rw [q] at e
      have hj : i < n ∧ j = i := by
        obtain ⟨h1, h2⟩ := List.getElem?_eq_some_iff.mp q
        simp at h1 h2
        exact ⟨h1, h2.symm⟩
      obtain ⟨hi, rfl⟩ := hj
      cases e
      exact ⟨hi, fun z H' hz => by obtain ⟨rfl, rfl⟩ := hz; exact ⟨Ext.refl, r, .pd (.int _)⟩⟩,
  by show n ≤ (wkRange lo n).items.length; unfold wkRange; simp⟩
def rangeOf1 : List D → DM Wk := fun ds _ S => match ds with
  | [.pd (.int j)] => if -(2 ^ 62) ≤ j ∧ j < 2 ^ 62 then .ok (wkRange 0 j.toNat) S else .stuck
  | _ => .stuck
def rangeOf2 : List D → DM Wk := fun ds _ S => match ds with
  | [.pd (.int i), .pd (.int j)] => if -(2 ^ 62) ≤ i ∧ i < 2 ^ 62 ∧ -(2 ^ 62) ≤ j ∧ j < 2 ^ 62 then .ok (wkRange i (j - i).toNat) S else .stuck
  | _ => .stuck
def iRange1 (m : DM (List D)) : DM Wk := mBind m rangeOf1
def iRange2 (m : DM (List D)) : DM Wk := mBind m rangeOf2
variable {ml : DM (List D)} {a b : Expr}
theorem ix_range1 (hg : Gl X "range") (hm : X.mg "range" = none) (ha : PA X [a] (TL g E ml)) (hs : starEach [a] X.env = [(false, eval a X.env)] := by rfl) : PI X tg (.Call (.Name "range" p) [a] [] pos) (TW g E (iRange1 ml)) :=
  PI.imp (pi_range1 hg hm ha hs) fun σ H R ⟨L, σd, S, rp, sl, ev⟩ => ⟨L, σd, S, rp, sl, ev.step fun ds S1 L1 H1 x1 r1 ev1 vs dn => by
    unfold rangeOf1 at ev1
    split at ev1
    · rename_i j
      split at ev1
      · rename_i hj
        cases dn with
        | cons d1 d2 =>
          cases d2
          cases den_int d1
          exact ⟨j, rfl, hj.1, hj.2, ev1.ok r1 _ range_walk⟩
      · exact ev1.elim
    · exact ev1.elim⟩
theorem ix_range2 (hg : Gl X "range") (hm : X.mg "range" = none) (ha : PA X [a, b] (TL g E ml)) (hs : starEach [a, b] X.env = [(false, eval a X.env), (false, eval b X.env)] := by rfl) (hs2 : starEach [b] X.env = [(false, eval b X.env)] := by rfl) : PI X tg (.Call (.Name "range" p) [a, b] [] pos) (TW g E (iRange2 ml)) :=
  PI.imp (pi_range2 hg hm ha hs hs2) fun σ H R ⟨L, σd, S, rp, sl, ev⟩ => ⟨L, σd, S, rp, sl, ev.step fun ds S1 L1 H1 x1 r1 ev1 vs dn => by
    unfold rangeOf2 at ev1
    split at ev1
    · rename_i i j
      split at ev1
      · rename_i hj
        cases dn with
        | cons d1 d2 =>
          cases d2 with
          | cons d2 d3 =>
            cases d3
            cases den_int d1
            cases den_int d2
            exact ⟨i, j, rfl, hj, ev1.ok r1 _ range_walk⟩
      · exact ev1.elim
    · exact ev1.elim⟩

/-! ### for -/
def clr : List Nat → Sl → Sl
  | [], σ => σ
  | i :: r, σ => (clr r σ).set i none
theorem SlDen.clr (h : SlDen g L H σd σ) : ∀ vs : List Nat, SlDen g L H (clr vs σd) σ
  | [] => h
  | j :: r => fun i d e => by
    by_cases hj : j = i
    · subst hj
      unfold DL.clr at e
      by_cases hl : j < (DL.clr r σd).length
      · rw [List.getElem?_set_self hl] at e; cases e
      · rw [List.getElem?_eq_none (by rw [List.length_set]; omega)] at e; cases e
    · unfold DL.clr at e
      rw [List.getElem?_set_ne hj] at e
      exact SlDen.clr h r i d e
noncomputable def forGo (gu : Gu) (t : TgD) (body : DM Fl) (vs : List Nat) : List D → DM Fl
  | [] => fun σ S => if gu.ok S then .ok (.next σ) S else .stuck
  | d :: r => fun σ S => if gu.ok S then (match t d σ with
    | some σ1 => (body σ1 S).bind fun f S' => match f with
      | .next σ2 => forGo gu t body vs r (clr vs σ2) S'
      | .cont σ2 => forGo gu t body vs r (clr vs σ2) S'
      | .brk σ2 => .ok (.next (clr vs σ2)) S'
      | .ret d => .ok (.ret d) S'
    | none => .stuck) else .stuck
noncomputable def sFor (vs : List Nat) (w : DM Wk) (t : TgD) (body : DM Fl) : DM Fl := fun σ S => (w σ S).bind fun wk S' => forGo wk.gu t body vs wk.items (clr vs σ) S'
variable {mw : DM Wk} {t : TgD} {mb : DM Fl} {iter : Expr} {body : List Stmt} {vs : List Nat}
theorem gx_refl : Gx g g H0 := ⟨rfl, rfl, fun _ h => .inl h⟩
theorem qs_for (hp : PassesOwn (model X.prog X.w) X.A X.env X.xe) (hc : X.calm = true) (hi : PI X tg iter (TW g E mw)) (hg : PG X tg (GT g t)) (hb : PSs X body (TSt g E mb))
    (hs : ∀ x, foldedSetIterable iter X.env x = pure x := by intro _; rfl) : PS X (.For tg iter body [] pos) (TSt g E (sFor vs mw t mb)) :=
  PS.imp (ps_for hp hc hi hg hb hs) fun D σ H ⟨L, σd, S, rp, sl, ev⟩ => ⟨L, σd, S, rp, sl, (Ev.bind ev).imp fun wk S1 L1 H1 x1 r1 ev1 J hJ => by
    refine ⟨fun i m σ H => ∃ L σd S, m = wk.items.length - i ∧ i ≤ wk.items.length ∧ Ext g L1 H1 L H ∧ RepS g L S H ∧ SlDen g L H σd σ ∧ Ev g E L H (forGo wk.gu t mb vs (wk.items.drop i) σd S) (PF g D),
      ⟨wk.items.length, L1, clr vs σd, S1, by simp, Nat.zero_le _, Ext.refl, r1, (sl.ext rp x1).clr vs, by simpa using ev1⟩, ?_⟩
    rintro i m σ2 H2 ⟨L2, σd2, S2, rfl, hi, x2, r2, sl2, ev2⟩
    cases hd : wk.items.drop i with
    | nil =>
      rw [hd] at ev2
      unfold forGo at ev2
      split at ev2
      · rename_i gu
        have hi2 : i = wk.items.length := by
          have := congrArg List.length hd
          simp at this
          omega
        obtain ⟨_, st⟩ := hJ g L2 S2 H2 gx_refl x2 r2 gu
        subst hi2
        exact .inl ⟨st, ev2.ok r2 σ2 sl2⟩
      · exact ev2.elim
    | cons d r =>
      rw [hd] at ev2
      unfold forGo at ev2
      split at ev2
      · rename_i gu
        have hi2 : i < wk.items.length := by
          have := congrArg List.length hd
          simp at this
          omega
        have ed : wk.items[i]? = some d := by
          have := congrArg (fun l => l[0]?) hd
          simpa [List.getElem?_drop] using this
        have hr : wk.items.drop (i + 1) = r := by
          have := congrArg (List.drop 1) hd
          simpa [List.drop_drop, Nat.add_comm] using this
        obtain ⟨go, _⟩ := hJ g L2 S2 H2 gx_refl x2 r2 gu
        obtain ⟨go, yl⟩ := go i d ed
        cases e1 : t d σd2 with
        | none => rw [e1] at ev2; exact ev2.elim
        | some σ3 =>
          rw [e1] at ev2
          refine .inr ⟨go, fun σ H => ∃ L σd S, i + 1 ≤ wk.items.length ∧ Ext g L1 H1 L H ∧ RepS g L S H ∧ SlDen g L H σd σ ∧ Ev g E L H (forGo wk.gu t mb vs (wk.items.drop (i + 1)) σd S) (PF g D), fun σ' H' ⟨L', σd', S', h1, h2, h3, h4, h5⟩ => ⟨wk.items.length - (i + 1), by omega, L', σd', S', rfl, h1, h2, h3, h4, h5⟩, fun z H3 hz => ?_⟩
          obtain ⟨x3, r3, dn⟩ := yl z H3 hz
          refine ⟨L2, σd2, S2, d, σ3, r3, sl2.ext r2 x3, dn, e1, fun σ' sl' => ⟨L2, σ3, S2, r3, sl', (Ev.of x3 (Ev.bind ev2)).imp fun f S4 L4 H4 x4 r4 ev4 => ?_⟩⟩
          rw [hr]
          cases f with
          | next σ5 => exact fun σ6 sl6 => ⟨L4, clr vs σ5, S4, hi2, (x2.trans x3).trans x4, r4, sl6.clr vs, ev4⟩
          | cont σ5 => exact fun σ6 sl6 => ⟨L4, clr vs σ5, S4, hi2, (x2.trans x3).trans x4, r4, sl6.clr vs, ev4⟩
          | brk σ5 => exact fun σ6 sl6 => ev4.ok r4 σ6 (sl6.clr vs)
          | ret d => exact ev4.ok r4
      · exact ev2.elim⟩

/-! ### while -/
def whileN (c : DM Bool) (body : DM Fl) (vs : List Nat) : Nat → DM Fl
  | 0 => fun _ _ => .stuck
  | n + 1 => fun σ S => (c σ S).bind fun k S1 => if k then (body σ S1).bind fun f S2 => match f with
      | .next σ2 => whileN c body vs n (clr vs σ2) S2
      | .cont σ2 => whileN c body vs n (clr vs σ2) S2
      | .brk σ2 => .ok (.next (clr vs σ2)) S2
      | .ret d => .ok (.ret d) S2
    else .ok (.next σ) S1
noncomputable def sWhile (vs : List Nat) (c : DM Bool) (body : DM Fl) : DM Fl := fun σ S => if h : ∃ n, whileN c body vs n (clr vs σ) S ≠ .stuck then whileN c body vs (Classical.choose h) (clr vs σ) S else .stuck
variable {nc : DM Bool} {c : Expr}
theorem qs_while (hp : PassesOwn (model X.prog X.w) X.A X.env X.xe) (hc : PT X c (TB g E nc)) (hb : PSs X body (TSt g E mb)) : PS X (.While c body [] pos) (TSt g E (sWhile vs nc mb)) :=
  PS.imp (ps_while hp hc hb) fun D σ H ⟨L, σd, S, rp, sl, ev⟩ => by
    unfold sWhile at ev
    split at ev
    · rename_i h
      refine ⟨fun m σ H => ∃ L σd S, RepS g L S H ∧ SlDen g L H σd σ ∧ Ev g E L H (whileN nc mb vs m σd S) (PF g D), ⟨_, L, _, S, rp, sl.clr vs, ev⟩, ?_⟩
      rintro m σ2 H2 ⟨L2, σd2, S2, r2, sl2, ev2⟩
      cases m with
      | zero => exact ev2.elim
      | succ m =>
        unfold whileN at ev2
        refine ⟨L2, σd2, S2, r2, sl2, (Ev.bind ev2).imp fun k S3 L3 H3 x3 r3 ev3 => ?_⟩
        cases k with
        | false => exact Ev.ok (P := PF g D) (E := E) (a := Fl.next σd2) ev3 r3 σ2 (sl2.ext r2 x3)
        | true =>
          show ∃ N : St → Hp → Prop, _
          refine ⟨fun σ H => ∃ L σd S, RepS g L S H ∧ SlDen g L H σd σ ∧ Ev g E L H (whileN nc mb vs m σd S) (PF g D), fun σ' H' h => ⟨m, Nat.lt_succ_self m, h⟩, L3, σd2, S3, r3, sl2.ext r2 x3, ?_⟩
          have ev3' : Ev g E L3 H3 ((mb σd2 S3).bind fun f S2 => match f with
            | .next σ2 => whileN nc mb vs m (clr vs σ2) S2
            | .cont σ2 => whileN nc mb vs m (clr vs σ2) S2
            | .brk σ2 => .ok (.next (clr vs σ2)) S2
            | .ret d => .ok (.ret d) S2) (PF g D) := ev3
          refine (Ev.bind ev3').imp fun f S4 L4 H4 x4 r4 ev4 => ?_
          cases f with
          | next σ5 => exact fun σ6 sl6 => ⟨L4, clr vs σ5, S4, r4, sl6.clr vs, ev4⟩
          | cont σ5 => exact fun σ6 sl6 => ⟨L4, clr vs σ5, S4, r4, sl6.clr vs, ev4⟩
          | brk σ5 => exact fun σ6 sl6 => ev4.ok r4 σ6 (sl6.clr vs)
          | ret d => exact ev4.ok r4
    · exact ev.elim
end
end DL
end
section
namespace DL
open PySem PySem.Spec PyProof.Rows L2
open Classical

/-! ### comprehensions -/
def TgR (K : PySem.W.Frag) (N : List Str) (vs : List Nat) (gt : TG) (t : TgD) : Prop := ∀ (g : G) (L : List Addr) (S : Sto) (H : Hp) (v : V) (d : D) (σd σd' : Sl) (σ : L2.St) (Q : L2.St → Hp → Prop), g.K = K → RepS g L S H → SlDen g L H σd σ → σ.length = N.length → Den g L H d v → t d σd = some σd' →
  (∀ σ' : L2.St, SlDen g L H σd' σ' → σ'.length = σ.length → (∀ i, i ∉ vs → σ'[i]? = σ[i]?) → Q σ' H) → gt v σ H Q
def TgsR (K : PySem.W.Frag) (N : List Str) (vs : List Nat) (gt : TGs) (t : TgsD) : Prop := ∀ (g : G) (L : List Addr) (S : Sto) (H : Hp) (v : List V) (d : List D) (σd σd' : Sl) (σ : L2.St) (Q : L2.St → Hp → Prop), g.K = K → RepS g L S H → SlDen g L H σd σ → σ.length = N.length → Dens g L H d v → t d σd = some σd' →
  (∀ σ' : L2.St, SlDen g L H σd' σ' → σ'.length = σ.length → (∀ i, i ∉ vs → σ'[i]? = σ[i]?) → Q σ' H) → gt v σ H Q
section
variable {K : PySem.W.Frag} {N : List Str} {vs : List Nat} {gt : TG} {gts : TGs} {t : TgD} {u : TgsD}
theorem tr_name {i : Nat} {x : Str} (hi : N[i]? = some x := by rfl) (hm : i ∈ vs := by decide) : TgR K N vs (gName i) (tgName i) := by
  intro g L S H v d σd σd' σ Q hK r sl hl dn e q
  cases e
  have hl2 : i < σ.length := by rw [hl]; exact (List.getElem?_eq_some_iff.mp hi).1
  refine q _ (sl.put dn i hl2) (by rw [List.length_set]) fun j hj => ?_
  rw [List.getElem?_set_ne (show i ≠ j from fun z => hj (by rw [← z]; exact hm))]
theorem tr_nil : TgsR K N vs gNil tgNil := by
  intro g L S H v d σd σd' σ Q hK r sl hl dn e q
  unfold tgNil at e
  split at e
  · cases e; cases dn; exact ⟨rfl, q σ sl rfl fun _ _ => rfl⟩
  · cases e
theorem tr_cons (h1 : TgR K N vs gt t) (h2 : TgsR K N vs gts u) : TgsR K N vs (gCons gt gts) (tgCons t u) := by
  intro g L S H v d σd σd' σ Q hK r sl hl dn e q
  unfold tgCons at e
  split at e
  · rename_i d r'
    cases dn with
    | cons d1 d2 =>
      cases e1 : t d σd with
      | none => rw [e1] at e; cases e
      | some σ1 =>
        rw [e1] at e
        exact ⟨_, _, rfl, h1 g L S H _ _ _ _ _ _ hK r sl hl d1 e1 fun σ' sl' hl' out => h2 g L S H _ _ _ _ _ _ hK r sl' (hl'.trans hl) d2 e fun σ'' sl'' hl'' out'' => q σ'' sl'' (hl''.trans hl') fun i hi => (out'' i hi).trans (out i hi)⟩
  · cases e
theorem tr_tup {n : Nat} (h : TgsR K N vs gts u) (hu : ∀ ds σd σd', u ds σd = some σd' → ds.length = n) : TgR K N vs (gTup K n gts) (tgTup u) := by
  intro g L S H v d σd σd' σ Q hK r sl hl dn e q
  unfold tgTup at e
  split at e
  · rename_i ds
    obtain ⟨a, vs, rfl, rd, dz⟩ := den_tup dn
    rw [hK] at rd
    refine ⟨a, vs, rfl, rd, ?_, h g L S H _ _ _ _ _ _ hK r sl hl dz.dens e q⟩
    rw [dz.len, ← hu _ _ _ e, List.length_map]
  · cases e
theorem wipe_in {σ : L2.St} : ∀ {vs : List Nat} {i : Nat}, i ∈ vs → i < σ.length → (wipe σ vs)[i]? = some none
  | [], _, h, _ => by cases h
  | v :: vs, i, h, hl => by
    unfold wipe
    by_cases e : v = i
    · subst e
      exact List.getElem?_set_self (by rw [wipe_length]; exact hl)
    · rw [List.getElem?_set_ne e]
      rcases List.mem_cons.mp h with h | h
      · exact absurd h.symm e
      · exact wipe_in h hl
theorem wipe_eq {σ σ' : L2.St} {vs : List Nat} (hl : σ'.length = σ.length) (h : ∀ i, i ∉ vs → σ'[i]? = σ[i]?) : wipe σ' vs = wipe σ vs := by
  refine List.ext_getElem? fun i => ?_
  by_cases hi : i ∈ vs
  · by_cases hl2 : i < σ.length
    · rw [wipe_in hi hl2, wipe_in hi (by rw [hl]; exact hl2)]
    · rw [List.getElem?_eq_none (by rw [wipe_length]; omega), List.getElem?_eq_none (by rw [wipe_length]; omega)]
  · rw [wipe_out hi, wipe_out hi, h i hi]
end
def Out.bindN {α β : Type} : Out α → (α → Sto → Out β) → Out β
  | .ok a S, f => f a S
  | _, _ => .stuck
@[simp] theorem Out.bindN_ok {α β : Type} (a : α) (S : Sto) (f : α → Sto → Out β) : (Out.ok a S).bindN f = f a S := rfl
noncomputable def lcGo (gu : Gu) (t : TgD) (tt : DM Bool) (te : DM D) : List D → List D → Sl → Sto → Out (List D)
  | [], acc, _, S => if gu.ok S then .ok acc S else .stuck
  | d :: r, acc, σ, S => if gu.ok S then (match t d σ with
    | some σ1 => (tt σ1 S).bindN fun k S1 => if k = true then (te σ1 S1).bindN fun y S2 => if acc.length < sizeLine then lcGo gu t tt te r (acc ++ [y]) σ S2 else .stuck else lcGo gu t tt te r acc σ S1
    | none => .stuck) else .stuck
/-- [e for t in w if tt]: the new list's items -/
noncomputable def lcAll (vs : List Nat) (w : DM Wk) (t : TgD) (tt : DM Bool) (te : DM D) : DM (List D) := fun σ S => (w σ S).bind fun wk S' => lcGo wk.gu t tt te wk.items [] (clr vs σ) S'
def mkF : List D → DM D := fun ys _ S => match pdL ys with
  | some zs => .ok (.lst zs) S
  | none => .stuck
def mkM : List D → DM D := fun ys _ S => .ok (.ref S.length) (S ++ [.lst ys])
noncomputable def eLc (vs : List Nat) (w : DM Wk) (t : TgD) (tt : DM Bool) (te : DM D) : DM D := mBind (lcAll vs w t tt te) mkF
noncomputable def eLcM (vs : List Nat) (w : DM Wk) (t : TgD) (tt : DM Bool) (te : DM D) : DM D := mBind (lcAll vs w t tt te) mkM
section
variable {g g' : G} {E : WX} {L L' L0 : List Addr} {H H' H0 : Hp} {S S' : Sto} {σd : Sl} {σ : L2.St} {v : V} {d : D}
/-- the ground of a comprehension's block: the new list, too, is not to be touched -/
def G.blk (g : G) (A : Addr) : G := { g with W := fun a => g.W a ∨ a = A }
theorem blk_gx {A : Addr} (h : H0 A = none) : Gx g (g.blk A) H0 := ⟨rfl, rfl, fun a w => w.imp id fun e => by rw [e]; exact h⟩
theorem blk_rep {A : Addr} {o : HO} (nt : NT o) (r : RepS g L S H) (h : H A = some o) (hn : A ∉ L) (ob : Paired (fun ob a => ObDen (g.blk A) L H a ob) S L) : RepS (g.blk A) L S H where
  nd := r.nd
  pre := r.pre
  obs := ob
  fresh := r.fresh
  own := fun a h na w => w.elim (r.own a h na) fun e => hn (e ▸ h)
  keep := r.keep
  amb := fun a w => w.elim (r.amb a) fun e => ⟨o, e.symm ▸ h, nt⟩
  asW := fun a h => .inl (r.asW a h)
theorem Den.back {A : Addr} (h : Den (g.blk A) L H d v) : Den g L H d v := by
  cases h with
  | pd q => exact .pd (q.anti fun b w => w.imp .inl id)
  | ref q => exact .ref q
  | glob q => exact .glob q
theorem blk_back {A : Addr} (r : RepS (g.blk A) L S H) (hw : ∀ a ∈ g.as, g.W a) : RepS g L S H where
  nd := r.nd
  pre := r.pre
  obs := Paired.imp r.obs fun ob a d => by
    cases d with
    | lst e q => exact .lst e (Paired.imp q fun _ _ q => Den.back q)
    | dct e q => exact .dct e (Paired.imp q fun _ _ q => ⟨q.1, Den.back q.2⟩)
    | dtt e q => exact .dtt e (Paired.imp q fun _ _ q => ⟨q.1, Den.back q.2⟩)
    | ins c e q => exact .ins c e (Paired.imp q fun _ _ q => ⟨q.1, Den.back q.2⟩)
  fresh := r.fresh
  own := fun a h na w => r.own a h na (.inl w)
  keep := r.keep
  amb := fun a w => r.amb a (.inl w)
  asW := hw
theorem Ext.upd1 {A : Addr} {o : HO} (hn : A ∉ L) (h : H A = some o) {o' : HO} : Ext (g) L0 H0 L H → H0 A = none → Ext g L0 H0 L (upd H A o') := fun x h0 =>
  ⟨x.pre, x.new, fun a u e na => by rw [upd_ne (ne_of_none e h0)]; exact x.keep a u e na, fun a u e => by rw [upd_ne (ne_of_none e h0)]; exact x.there a u e⟩
/-- the new list's content is written: nothing else is touched -/
theorem RepS.updO {A : Addr} {o' : HO} (nt : NT o') (r : RepS (g.blk A) L S H) (hn : A ∉ L) (h0 : g.H0 A = none) : RepS (g.blk A) L S (upd H A o') := by
  have kpx : Kp ((g.blk A).wr L) ((g.blk A).wr L) H (upd H A o') := ⟨fun a o e n => by rw [upd_ne (show a ≠ A from fun z => n (.inl (.inr z)))]; exact e, fun a o e n => n, (kp r Ext.refl).tups⟩
  have dk : ∀ {d : D} {v : V}, Den (g.blk A) L H d v → Den (g.blk A) L (upd H A o') d v := fun {d v} h => by
    cases h with
    | pd q => exact .pd (q.keep kpx)
    | ref q => exact .ref q
    | glob q => exact .glob q
  refine ⟨r.nd, r.pre, Paired.memL r.obs fun ob a _ ha d => ?_, r.fresh, r.own, fun a o e na => ?_, fun a w => ?_, r.asW⟩
  · have ne : a ≠ A := fun z => hn (z ▸ ha)
    cases d with
    | lst e q => exact .lst (by rw [upd_ne ne]; exact e) (Paired.imp q fun _ _ q => dk q)
    | dct e q => exact .dct (by rw [upd_ne ne]; exact e) (Paired.imp q fun _ _ q => ⟨q.1, dk q.2⟩)
    | dtt e q => exact .dtt (by rw [upd_ne ne]; exact e) (Paired.imp q fun _ _ q => ⟨q.1, dk q.2⟩)
    | ins c e q => exact .ins c (by rw [upd_ne ne]; exact e) (Paired.imp q fun _ _ q => ⟨q.1, dk q.2⟩)
  · have e' : g.H0 a = some o := e
    rw [upd_ne (ne_of_none e' h0)]
    exact r.keep a o e na
  · by_cases z : a = A
    · subst z; exact ⟨_, upd_same, nt⟩
    · obtain ⟨o, e, nt⟩ := r.amb a w
      exact ⟨o, by rw [upd_ne z]; exact e, nt⟩
theorem Den.updO {A : Addr} {o' : HO} (r : RepS (g.blk A) L S H) (h : Den (g.blk A) L H d v) : Den (g.blk A) L (upd H A o') d v := by
  have kpx : Kp ((g.blk A).wr L) ((g.blk A).wr L) H (upd H A o') := ⟨fun a o e n => by rw [upd_ne (show a ≠ A from fun z => n (.inl (.inr z)))]; exact e, fun a o e n => n, (kp r Ext.refl).tups⟩
  cases h with
  | pd q => exact .pd (q.keep kpx)
  | ref q => exact .ref q
  | glob q => exact .glob q
theorem nt_lst (vs : List V) : NT (.lst vs) := ⟨fun _ => by simp, fun _ _ => by simp⟩
theorem nt_dK (vs : List (Key × V)) : NT (.dK vs) := ⟨fun _ => by simp, fun _ _ => by simp⟩
theorem RepS.updB {A : Addr} {vs vs' : List V} (r : RepS (g.blk A) L S H) (h : H A = some (.lst vs)) (hn : A ∉ L) (h0 : g.H0 A = none) : RepS (g.blk A) L S (upd H A (.lst vs')) := r.updO (nt_lst _) hn h0
theorem Den.updB {A : Addr} {vs' : List V} (r : RepS (g.blk A) L S H) (h : Den (g.blk A) L H d v) : Den (g.blk A) L (upd H A (.lst vs')) d v := Den.updO r h
/-- a state carried into a block -/
theorem blk_inO {A : Addr} {o' : HO} (nt : NT o') (r : RepS g L S H) (n : H A = none) : RepS (g.blk A) L S (upd H A o') := by
  have r1 := r.new1 (o := o') n
  have hA : A ∉ L := fun h => r.free n (.inr h)
  refine blk_rep nt r1 upd_same hA ?_
  refine Paired.imp r.obs fun ob a d => ?_
  have ne : ∀ o, H a = some o → upd H A o' a = some o := fun o e => by rw [upd_ne (ne_of_none e n)]; exact e
  have dk : ∀ {d : D} {v : V}, Den g L H d v → Den (g.blk A) L (upd H A o') d v := fun {d v} h => h.gx r (blk_gx n) (Ext.new1 n)
  cases d with
  | lst e q => exact .lst (ne _ e) (Paired.imp q fun _ _ q => dk q)
  | dct e q => exact .dct (ne _ e) (Paired.imp q fun _ _ q => ⟨q.1, dk q.2⟩)
  | dtt e q => exact .dtt (ne _ e) (Paired.imp q fun _ _ q => ⟨q.1, dk q.2⟩)
  | ins c e q => exact .ins c (ne _ e) (Paired.imp q fun _ _ q => ⟨q.1, dk q.2⟩)
theorem blk_in {A : Addr} (r : RepS g L S H) (n : H A = none) : RepS (g.blk A) L S (upd H A (.lst [])) := blk_inO (nt_lst _) r n
/-- .. and back, the list one of the store's -/
theorem blk_adoptO {A : Addr} {ob : Ob} (r : RepS (g.blk A) L S H) (hw : ∀ a ∈ g.as, g.W a) (hob : ObDen (g.blk A) L H A ob) (hn : A ∉ L) (hW : ¬ g.W A) (h0 : g.H0 A = none) : RepS g (L ++ [A]) (S ++ [ob]) H := by
  have mv : ∀ {d : D} {v : V}, Den (g.blk A) L H d v → Den g (L ++ [A]) H d v := fun {d v} h => by
    cases h with
    | pd q => exact .pd (q.anti fun b w => by
        rcases w with w | w
        · exact .inl (.inl w)
        · rcases List.mem_append.mp w with w | w
          · exact .inr w
          · exact .inl (.inr (by simpa using w)))
    | ref q => exact .ref (by rw [List.getElem?_append_left (List.getElem?_eq_some_iff.mp q).1]; exact q)
    | glob q => exact .glob q
  have mvo : ∀ {a : Addr} {ob : Ob}, ObDen (g.blk A) L H a ob → ObDen g (L ++ [A]) H a ob := fun {a ob} d => by
    cases d with
    | lst e q => exact .lst e (Paired.imp q fun _ _ q => mv q)
    | dct e q => exact .dct e (Paired.imp q fun _ _ q => ⟨q.1, mv q.2⟩)
    | dtt e q => exact .dtt e (Paired.imp q fun _ _ q => ⟨q.1, mv q.2⟩)
    | ins c e q => exact .ins c e (Paired.imp q fun _ _ q => ⟨q.1, mv q.2⟩)
  refine ⟨?_, r.pre.trans (List.prefix_append _ _), Paired.app (Paired.imp r.obs fun ob a d => ?_) (.cons (mvo hob) .nil), fun a ha na => ?_, fun a ha na => ?_, r.keep, fun a w => r.amb a (.inl w), hw⟩
  · rw [List.nodup_append]
    refine ⟨r.nd, by simp, fun a ha b hb e => ?_⟩
    have e2 : b = A := by simpa using hb
    subst e e2
    exact hn ha
  · exact mvo d
  · rcases List.mem_append.mp ha with ha | ha
    · exact r.fresh a ha na
    · have e : a = A := by simpa using ha
      rw [e]; exact h0
  · rcases List.mem_append.mp ha with ha | ha
    · exact fun w => r.own a ha na (.inl w)
    · have e : a = A := by simpa using ha
      rw [e]; exact hW
theorem blk_adopt {A : Addr} {ds : List D} {vs : List V} (r : RepS (g.blk A) L S H) (hw : ∀ a ∈ g.as, g.W a) (h : H A = some (.lst vs)) (hn : A ∉ L) (hW : ¬ g.W A) (h0 : g.H0 A = none) (dn : Dens (g.blk A) L H ds vs) : RepS g (L ++ [A]) (S ++ [.lst ds]) H :=
  blk_adoptO r hw (.lst h dn) hn hW h0
end
end DL
end
section
namespace DL
open PySem PySem.Spec PyProof.Rows L2
open Classical
abbrev EN : WX := fun _ _ _ _ => False
section
variable {g g' : G} {E : WX} {L L' L0 : List Addr} {H H' H0 : Hp} {S S' : Sto} {σd : Sl} {σ : L2.St} {v : V} {d : D}
variable {X : Cx} {tg iter elt : Expr} {ifs : List Expr} {scope : Scope} {own : List (Str × Nat)} {pos : Pos} {mw : DM Wk} {gt : TG} {t : TgD} {mt : DM Bool} {me : DM D} {tt : TT} {te : TE}
theorem bindN_ok {α β : Type} {m : Out α} {f : α → Sto → Out β} {b : β} {S : Sto} (h : m.bindN f = .ok b S) : ∃ a S1, m = .ok a S1 ∧ f a S1 = .ok b S := by
  cases m with
  | ok a S1 => exact ⟨a, S1, rfl, h⟩
  | exc e σ S1 => cases h
  | stuck => cases h
theorem lcGo_noexc {gu : Gu} {e : Exn} {σ2 : Sl} : ∀ (l acc : List D) (σ : Sl) (S S' : Sto), lcGo gu t mt me l acc σ S ≠ .exc e σ2 S'
  | [], acc, σ, S, S' => by
    unfold lcGo
    split <;> (intro z; cases z)
  | d :: r, acc, σ, S, S' => by
    unfold lcGo
    split
    · split
      · intro z
        rename_i σ1 e1
        cases q : mt σ1 S with
        | ok k S1 =>
          rw [q] at z
          simp only [Out.bindN_ok] at z
          split at z
          · cases q2 : me σ1 S1 with
            | ok y S2 =>
              rw [q2] at z
              simp only [Out.bindN_ok] at z
              split at z
              · exact lcGo_noexc r _ _ _ _ z
              · cases z
            | exc _ _ _ => rw [q2] at z; cases z
            | stuck => rw [q2] at z; cases z
          · exact lcGo_noexc r _ _ _ _ z
        | exc _ _ _ => rw [q] at z; cases z
        | stuck => rw [q] at z; cases z
      · intro z; cases z
    · intro z; cases z
theorem clr_some : ∀ {vs : List Nat} {i : Nat}, (clr vs σd)[i]? = some (some d) → σd[i]? = some (some d) ∧ i ∉ vs
  | [], i, h => ⟨h, by simp⟩
  | j :: vs, i, h => by
    unfold clr at h
    by_cases e : j = i
    · subst e
      by_cases hl : j < (clr vs σd).length
      · rw [List.getElem?_set_self hl] at h; cases h
      · rw [List.getElem?_eq_none (by rw [List.length_set]; omega)] at h; cases h
    · rw [List.getElem?_set_ne e] at h
      obtain ⟨h1, h2⟩ := clr_some h
      exact ⟨h1, by simp only [List.mem_cons, not_or]; exact ⟨fun z => e z.symm, h2⟩⟩
theorem r1h0 {g : G} {L1 : List Addr} {S1 : Sto} {H1 : Hp} {A : Addr} (r1 : RepS g L1 S1 H1) (hA : H1 A = none) : g.H0 A = none := by
  cases e : g.H0 A with
  | none => rfl
  | some o => exact (r1.h0 hA o e).elim
theorem lc_reads {N : List Str} (hg : TgR g.K N (own.map (·.2)) gt t) (hw : ∀ a ∈ g.as, g.W a → True)
    (htt : ∀ (g' : G), g'.K = g.K → g'.mg = g.mg → ∀ σ H Q, TB g' EN mt σ H Q → tt σ H Q) (hte : ∀ (g' : G), g'.K = g.K → g'.mg = g.mg → ∀ σ H Q, T g' EN me σ H Q → te σ H Q)
    {wi : TI} (hwi : ∀ σ H R, TW g E mw σ H R → wi σ H R) {Q : VK}
    {mk : List D → DM D} (hmk : ∀ A L1 S1 H1 L S H ds vs, RepS g L1 S1 H1 → H1 A = none → Ext g L1 H1 L H → RepS (g.blk A) L S H → H A = some (.lst vs) → Dens (g.blk A) L H ds vs → A ∉ L →
      ∀ σd', Ev g E L1 H1 (mk ds σd' S) (PV g Q) → Q (.ref A) H)
    (h : T g E (mBind (lcAll (own.map (·.2)) mw t mt me) mk) σ H Q) (hNl : σ.length = N.length) : tLc wi gt tt te (own.map (·.2)) σ H Q := by
  obtain ⟨L, σd, S, rp, sl, ev⟩ := h
  generalize hvs : own.map (·.2) = vs at *
  refine hwi σ H _ ⟨L, σd, S, rp, sl, ?_⟩
  have ev' : Ev g E L H ((mw σd S).bind fun wk S' => (lcGo wk.gu t mt me wk.items [] (clr vs σd) S').bind fun ds S2 => mk ds σd S2) (PV g Q) := by
    have e : ((mw σd S).bind fun wk S' => (lcGo wk.gu t mt me wk.items [] (clr vs σd) S').bind fun ds S2 => mk ds σd S2) = mBind (lcAll vs mw t mt me) mk σd S := by
      unfold mBind lcAll
      cases mw σd S <;> rfl
    rw [e]; exact ev
  refine (Ev.bind ev').imp fun wk S1 L1 H1 x1 r1 ev1 J hJ A hA => ?_
  cases elc : lcGo wk.gu t mt me wk.items [] (clr vs σd) S1 with
  | exc e σ2 S2 => exact absurd elc (lcGo_noexc _ _ _ _ _)
  | stuck => rw [elc] at ev1; exact ev1.elim
  | ok dsF SF =>
    rw [elc] at ev1
    have evF : Ev g E L1 H1 (mk dsF σd SF) (PV g Q) := ev1
    have hAL1 : A ∉ L1 := fun h => r1.free hA (.inr h)
    have sl1 := sl.ext rp x1
    refine ⟨fun i m H => ∃ L S ds ws, m = wk.items.length - i ∧ i ≤ wk.items.length ∧ Ext g L1 H1 L H ∧ A ∉ L ∧ RepS (g.blk A) L S H ∧ H A = some (.lst ws) ∧ Dens (g.blk A) L H ds ws ∧ lcGo wk.gu t mt me (wk.items.drop i) ds (clr vs σd) S = .ok dsF SF,
      ⟨_, L1, S1, [], [], rfl, Nat.zero_le _, Ext.new1 hA, hAL1, blk_in r1 hA, upd_same, .nil, by simpa using elc⟩, ?_⟩
    rintro i m H2 ⟨L2, S2, ds, ws, rfl, hi, x2, hAL, r2, eA, dn, el⟩
    have gx := blk_gx (g := g) hA
    cases hd : wk.items.drop i with
    | nil =>
      rw [hd] at el
      unfold lcGo at el
      split at el
      · rename_i gu
        cases el
        have hi2 : i = wk.items.length := by
          have := congrArg List.length hd
          simp at this
          omega
        subst hi2
        exact .inl ⟨(hJ _ L2 _ H2 gx x2 r2 gu).2, hmk A L1 S1 H1 L2 _ H2 _ ws r1 hA x2 r2 eA dn hAL σd evF⟩
      · cases el
    | cons d r =>
      rw [hd] at el
      unfold lcGo at el
      split at el
      · rename_i gu
        have hi2 : i < wk.items.length := by
          have := congrArg List.length hd
          simp at this
          omega
        have ed : wk.items[i]? = some d := by
          have := congrArg (fun l => l[0]?) hd
          simpa [List.getElem?_drop] using this
        have hr : wk.items.drop (i + 1) = r := by
          have := congrArg (List.drop 1) hd
          simpa [List.drop_drop, Nat.add_comm] using this
        obtain ⟨go, yl⟩ := (hJ _ L2 _ H2 gx x2 r2 gu).1 i d ed
        split at el
        · rename_i σ1 e1
          obtain ⟨k, S3, em, el⟩ := bindN_ok el
          refine .inr ⟨go, fun H => ∃ L S ds ws, Ext g L1 H1 L H ∧ A ∉ L ∧ RepS (g.blk A) L S H ∧ H A = some (.lst ws) ∧ Dens (g.blk A) L H ds ws ∧ lcGo wk.gu t mt me (wk.items.drop (i + 1)) ds (clr vs σd) S = .ok dsF SF,
            fun H' ⟨L, S, ds, ws, h1, h2, h3, h4, h5, h6⟩ => ⟨wk.items.length - (i + 1), by omega, L, S, ds, ws, rfl, hi2, h1, h2, h3, h4, h5, h6⟩, fun x H3 hx => ?_⟩
          obtain ⟨x3, r3, dx⟩ := yl x H3 hx
          have eA3 := x3.keep A _ eA hAL
          have slw : SlDen (g.blk A) L2 H3 (clr vs σd) (wipe σ vs) := fun j e ej => by
            obtain ⟨e1, hj⟩ := clr_some ej
            obtain ⟨w, ew, dw⟩ := sl1 j e e1
            exact ⟨w, by rw [wipe_out hj]; exact ew, dw.gx r1 gx (x2.trans x3)⟩
          refine hg (g.blk A) L2 S2 H3 x d _ σ1 _ _ rfl r3 slw (by rw [wipe_length]; exact hNl) dx e1 fun σ' sl' hl' out => ?_
          refine ⟨wipe_eq (hl'.trans (wipe_length _ _)) fun j hj => by rw [out j hj, wipe_out hj], ?_⟩
          refine htt (g.blk A) rfl rfl σ' H3 _ ⟨L2, σ1, S2, r3, sl', ?_⟩
          rw [em]
          intro L4 H4 x4 r4
          have hAL4 : A ∉ L4 := fun h => by
            have := x4.new A h hAL
            rw [eA3] at this; cases this
          have eA4 := x4.keep A _ eA3 hAL
          have dn4 : Dens (g.blk A) L4 H4 ds ws := Dens.ext r3 x4 (Dens.ext r2 x3.any dn)
          show if k = true then _ else _
          split at el
          · rename_i hk
            obtain ⟨y, S5, ee, el⟩ := bindN_ok el
            split at el
            · rename_i hz
              rw [if_pos hk]
              refine hte (g.blk A) rfl rfl σ' H4 _ ⟨L4, σ1, S3, r4, sl'.ext r3 x4, ?_⟩
              rw [ee]
              intro L5 H5 x5 r5 w dw
              have hAL5 : A ∉ L5 := fun h => by
                have := x5.new A h hAL4
                rw [eA4] at this; cases this
              have eA5 := x5.keep A _ eA4 hAL4
              have dn5 : Dens (g.blk A) L5 H5 ds ws := Dens.ext r4 x5 dn4
              refine ⟨ws, eA5, by rw [← Paired.len dn5]; exact hz, L5, S5, ds ++ [y], ws ++ [w], ?_, hAL5, r5.updB eA5 hAL5 (r1h0 r1 hA), upd_same, Paired.app (Paired.imp dn5 fun _ _ q => Den.updB r5 q) (.cons (Den.updB r5 dw) .nil), by rw [hr]; exact el⟩
              exact Ext.upd1 hAL5 eA5 (((x2.trans x3).trans x4.any).trans x5.any) hA
            · cases el
          · rename_i hk
            rw [if_neg hk]
            exact ⟨L4, S3, ds, ws, (x2.trans x3).trans x4.any, hAL4, r4, eA4, dn4, by rw [hr]; exact el⟩
        · cases el
      · cases el

theorem PTs.ex {X : Cx} {K : PySem.W.Frag} {mg : Str → Option Value} {ifs : List Expr} (h : ∀ g' : G, g'.K = K → g'.mg = mg → PTs X ifs (TB g' EN mt)) : PTs X ifs (fun σ H Q => ∃ g' : G, g'.K = K ∧ g'.mg = mg ∧ TB g' EN mt σ H Q) :=
  ⟨fun p s σ H Q I ⟨g', e1, e2, q⟩ => (h g' e1 e2).run p s σ H Q I q⟩
theorem PE.ex {X : Cx} {K : PySem.W.Frag} {mg : Str → Option Value} {e : Expr} (h : ∀ g' : G, g'.K = K → g'.mg = mg → PE X e (T g' EN me)) : PE X e (fun σ H Q => ∃ g' : G, g'.K = K ∧ g'.mg = mg ∧ T g' EN me σ H Q) :=
  ⟨fun p s σ H Q I ⟨g', e1, e2, q⟩ => (h g' e1 e2).run p s σ H Q I q⟩
theorem ptsx_nil {X : Cx} : PTs X [] (TB g EN (mRet true)) := ⟨fun p s σ H Q I ⟨L, σd, S, rp, sl, ev⟩ => pts_nil.run p s σ H Q I (Ev.ok (P := PB Q) (E := EN) (a := true) ev rp)⟩
theorem ptsx_one {X : Cx} {c : Expr} (h : PT X c (TB g EN mt)) : PTs X [c] (TB g EN mt) := pts_one h
theorem mkF_ok {Q : VK} (hw : ∀ a ∈ g.as, g.W a) {A : Addr} {L1 : List Addr} {S1 : Sto} {H1 : Hp} {L : List Addr} {S : Sto} {H : Hp} {ds : List D} {vs : List V} (r1 : RepS g L1 S1 H1) (hA : H1 A = none) (x : Ext g L1 H1 L H) (r : RepS (g.blk A) L S H) (e : H A = some (.lst vs)) (dn : Dens (g.blk A) L H ds vs) (hn : A ∉ L)
    (σd' : Sl) (ev : Ev g E L1 H1 (mkF ds σd' S) (PV g Q)) : Q (.ref A) H := by
  unfold mkF at ev
  split at ev
  · rename_i zs ez
    rw [pdL_eq ez] at dn
    have hno : ¬ g.wr L A := fun w => w.elim (fun w => r1.free hA (.inl w)) hn
    exact ev L H x (blk_back r hw) (.ref A) (.pd (.lst hno (.inl e) ((dens_dz dn).anti fun b w => w.imp .inl id)))
  · exact ev.elim
theorem mkM_ok {Q : VK} (hw : ∀ a ∈ g.as, g.W a) {A : Addr} {L1 : List Addr} {S1 : Sto} {H1 : Hp} {L : List Addr} {S : Sto} {H : Hp} {ds : List D} {vs : List V} (r1 : RepS g L1 S1 H1) (hA : H1 A = none) (x : Ext g L1 H1 L H) (r : RepS (g.blk A) L S H) (e : H A = some (.lst vs)) (dn : Dens (g.blk A) L H ds vs) (hn : A ∉ L)
    (σd' : Sl) (ev : Ev g E L1 H1 (mkM ds σd' S) (PV g Q)) : Q (.ref A) H := by
  unfold mkM at ev
  have hL : S.length = L.length := Paired.len r.obs
  refine ev (L ++ [A]) H ⟨x.pre.trans (List.prefix_append _ _), fun a h na => ?_, x.keep, x.there⟩ (blk_adopt r hw e hn (fun w => r1.free hA (.inl w)) (r1h0 r1 hA) dn) (.ref A) (.ref (by rw [hL]; simp))
  rcases List.mem_append.mp h with h | h
  · exact x.new a h na
  · have : a = A := by simpa using h
    rw [this]; exact hA
theorem PE.len {X : Cx} {e : Expr} {t : TE} (h : PE X e t) : PE X e (fun σ H Q => σ.length = X.N.length → t σ H Q) := ⟨fun p s σ H Q I q => h.run p s σ H Q I (q I.len)⟩
theorem T.asW {m : DM D} {Q : VK} (h : T g E m σ H Q) : ∀ a ∈ g.as, g.W a := let ⟨_, _, _, r, _⟩ := h; r.asW
/-- [e for t in it if ..] -/
theorem px_lc (hK : X.K = g.K) (hmg : X.mg = g.mg) (hc : X.calm = true) (hN : X.N.Nodup) (hi : PI X tg iter (TW g E mw)) (ok : BlkOk X.N X.env.scope scope own)
    (hg : ∀ (s : Shared) (H : Hp) (C : Addr) (cl : List (Str × Addr)) (fp : List Addr), PG (X.blk s H scope (compEnvC scope cl C X.env) fp) tg gt) (tr : TgR X.K X.N (own.map (·.2)) gt t)
    (ht : ∀ (s : Shared) (H : Hp) (C : Addr) (cl : List (Str × Addr)) (fp : List Addr) (g' : G), X.K = g'.K → X.mg = g'.mg → PTs (X.blk s H scope (compEnvC scope cl C X.env) fp) ifs (TB g' EN mt))
    (he : ∀ (s : Shared) (H : Hp) (C : Addr) (cl : List (Str × Addr)) (fp : List Addr) (g' : G), X.K = g'.K → X.mg = g'.mg → PE (X.blk s H scope (compEnvC scope cl C X.env) fp) elt (T g' EN me)) (hs : ∀ x, foldedSetIterable iter X.env x = pure x := by intro _; rfl) :
    PE X (.ListComp elt [⟨tg, iter, ifs, 0⟩] scope pos) (T g E (eLc (own.map (·.2)) mw t mt me)) :=
  PE.imp (PE.len (pe_lc hc hN hi ok hg (fun s H C cl fp => PTs.ex (K := g.K) (mg := g.mg) fun g' e1 e2 => ht s H C cl fp g' (hK.trans e1.symm) (hmg.trans e2.symm)) (fun s H C cl fp => PE.ex (K := g.K) (mg := g.mg) fun g' e1 e2 => he s H C cl fp g' (hK.trans e1.symm) (hmg.trans e2.symm)) hs)) fun σ H Q h hl =>
    lc_reads (N := X.N) (by rw [← hK]; exact tr) (fun _ _ _ => trivial) (fun g' e1 e2 σ H Q q => ⟨g', e1, e2, q⟩) (fun g' e1 e2 σ H Q q => ⟨g', e1, e2, q⟩) (fun _ _ _ q => q)
      (fun A L1 S1 H1 L S H ds vs r1 hA x r e dn hn σd' ev => mkF_ok h.asW r1 hA x r e dn hn σd' ev) h hl
theorem px_lcM (hK : X.K = g.K) (hmg : X.mg = g.mg) (hc : X.calm = true) (hN : X.N.Nodup) (hi : PI X tg iter (TW g E mw)) (ok : BlkOk X.N X.env.scope scope own)
    (hg : ∀ (s : Shared) (H : Hp) (C : Addr) (cl : List (Str × Addr)) (fp : List Addr), PG (X.blk s H scope (compEnvC scope cl C X.env) fp) tg gt) (tr : TgR X.K X.N (own.map (·.2)) gt t)
    (ht : ∀ (s : Shared) (H : Hp) (C : Addr) (cl : List (Str × Addr)) (fp : List Addr) (g' : G), X.K = g'.K → X.mg = g'.mg → PTs (X.blk s H scope (compEnvC scope cl C X.env) fp) ifs (TB g' EN mt))
    (he : ∀ (s : Shared) (H : Hp) (C : Addr) (cl : List (Str × Addr)) (fp : List Addr) (g' : G), X.K = g'.K → X.mg = g'.mg → PE (X.blk s H scope (compEnvC scope cl C X.env) fp) elt (T g' EN me)) (hs : ∀ x, foldedSetIterable iter X.env x = pure x := by intro _; rfl) :
    PE X (.ListComp elt [⟨tg, iter, ifs, 0⟩] scope pos) (T g E (eLcM (own.map (·.2)) mw t mt me)) :=
  PE.imp (PE.len (pe_lc hc hN hi ok hg (fun s H C cl fp => PTs.ex (K := g.K) (mg := g.mg) fun g' e1 e2 => ht s H C cl fp g' (hK.trans e1.symm) (hmg.trans e2.symm)) (fun s H C cl fp => PE.ex (K := g.K) (mg := g.mg) fun g' e1 e2 => he s H C cl fp g' (hK.trans e1.symm) (hmg.trans e2.symm)) hs)) fun σ H Q h hl =>
    lc_reads (N := X.N) (by rw [← hK]; exact tr) (fun _ _ _ => trivial) (fun g' e1 e2 σ H Q q => ⟨g', e1, e2, q⟩) (fun g' e1 e2 σ H Q q => ⟨g', e1, e2, q⟩) (fun _ _ _ q => q)
      (fun A L1 S1 H1 L S H ds vs r1 hA x r e dn hn σd' ev => mkM_ok h.asW r1 hA x r e dn hn σd' ev) h hl
/-- name = [e for ..] on one line -/
theorem qs_setLcG {i : Nat} {y : Str} {py spos : Pos} {mk : List D → DM D} (hmkM : mk = mkF ∨ mk = mkM) (hK : X.K = g.K) (hmg : X.mg = g.mg) (hc : X.calm = true) (hN : X.N.Nodup) (hy : X.N[i]? = some y) (hyl : X.env.scope.names.lookup y = some .local)
    (hsw : swapsWith (.ListComp elt [⟨tg, iter, ifs, 0⟩] scope pos) (some (.Name y py)) spos.line X.env = pure true) (hi : PI X tg iter (TW g E mw)) (ok : BlkOk X.N X.env.scope scope own)
    (hg : ∀ (s : Shared) (H : Hp) (C : Addr) (cl : List (Str × Addr)) (fp : List Addr), PG (X.blk s H scope (compEnvC scope cl C X.env) fp) tg gt) (tr : TgR X.K X.N (own.map (·.2)) gt t)
    (ht : ∀ (s : Shared) (H : Hp) (C : Addr) (cl : List (Str × Addr)) (fp : List Addr) (g' : G), X.K = g'.K → X.mg = g'.mg → PTs (X.blk s H scope (compEnvC scope cl C X.env) fp) ifs (TB g' EN mt))
    (he : ∀ (s : Shared) (H : Hp) (C : Addr) (cl : List (Str × Addr)) (fp : List Addr) (g' : G), X.K = g'.K → X.mg = g'.mg → PE (X.blk s H scope (compEnvC scope cl C X.env) fp) elt (T g' EN me)) (hs : ∀ x, foldedSetIterable iter X.env x = pure x := by intro _; rfl) :
    PS X (.Assign [.Name y py] (.ListComp elt [⟨tg, iter, ifs, 0⟩] scope pos) spos) (TSt g E (sSet i (mBind (lcAll (own.map (·.2)) mw t mt me) mk))) :=
  PS.imp (PS.len (ps_setLc hc hN hy hyl hsw hi ok hg (fun s H C cl fp => PTs.ex (K := g.K) (mg := g.mg) fun g' e1 e2 => ht s H C cl fp g' (hK.trans e1.symm) (hmg.trans e2.symm)) (fun s H C cl fp => PE.ex (K := g.K) (mg := g.mg) fun g' e1 e2 => he s H C cl fp g' (hK.trans e1.symm) (hmg.trans e2.symm)) hs)) fun D σ H h hl => by
    obtain ⟨L, σd, S, rp, sl, ev⟩ := h
    have hl2 : i < σ.length := by rw [hl]; exact (List.getElem?_eq_some_iff.mp hy).1
    have h2 : T g E (mBind (lcAll (own.map (·.2)) mw t mt me) mk) σ H (fun x H1 => gName i x σ H1 D.nx) := ⟨L, σd, S, rp, sl, (Ev.bind ev).imp fun d S' L' H' x r' ev' v dn => ev'.ok r' _ ((sl.ext rp x).put dn i hl2)⟩
    refine lc_reads (N := X.N) (by rw [← hK]; exact tr) (fun _ _ _ => trivial) (fun g' e1 e2 σ H Q q => ⟨g', e1, e2, q⟩) (fun g' e1 e2 σ H Q q => ⟨g', e1, e2, q⟩) (fun _ _ _ q => q)
      (fun A L1 S1 H1 L S H ds vs r1 hA x r e dn hn σd' ev => ?_) h2 hl
    rcases hmkM with rfl | rfl
    · exact mkF_ok h2.asW r1 hA x r e dn hn σd' ev
    · exact mkM_ok h2.asW r1 hA x r e dn hn σd' ev
end
end DL
end
section
namespace DL
open PySem PySem.Spec PyProof.Rows L2
open Classical

/-! ### built-in functions -/
abbrev LF := List D → Sto → Out D
def CallX (X : Cx) (g : G) (f : Value) (op : LF) : Prop :=
  ∀ E : WX, CallR X f (fun xs H Q => ∃ L S ds, RepS g L S H ∧ Dens g L H ds xs ∧ Ev g E L H (op ds S) (PV g Q))
def eCall (op : LF) (ml : DM (List D)) : DM D := mBind ml fun ds => fun _ S => op ds S
section
variable {g g' : G} {E : WX} {L L' L0 : List Addr} {H H' H0 : Hp} {S S' : Sto} {σd : Sl} {σ : L2.St} {v : V} {d : D}
variable {X : Cx} {x : Str} {p p2 pos : Pos} {e a b : Expr} {es : List Expr} {ml : DM (List D)} {ma mb : DM D} {bid Ty : String} {op : LF}
theorem px_callB (hc : CallX X g (.builtin bid) op) (hg : Gl X x) (hm : X.mg x = none) (hv : bootBuiltins x = some (.builtin bid)) (ha : PA X (e :: es) (TL g E ml)) (hn : x ≠ "__name__" := by decide) (hdb : (x == ("__debug__" : Str)) = false := by decide)
    (he : starEach (e :: es) X.env = (false, eval e X.env) :: starEach es X.env := by rfl) (hpl : (backTo pos (starEach es X.env)).any (·.1) = false := by rfl) : PE X (.Call (.Name x p) (e :: es) [] pos) (T g E (eCall op ml)) :=
  PE.imp (pe_callB (hc E) hg hm hv ha hn hdb he hpl) fun σ H Q ⟨L, σd, S, rp, sl, ev⟩ => ⟨L, σd, S, rp, sl, ev.step fun ds S1 L1 H1 x1 r1 ev1 vs dn => ⟨L1, S1, ds, r1, dn, ev1⟩⟩
theorem px_callTy (hc : CallX X g (.type Ty) op) (hg : Gl X x) (hm : X.mg x = none) (hv : bootBuiltins x = some (.type Ty)) (ha : PA X (e :: es) (TL g E ml)) (hn : x ≠ "__name__" := by decide) (hdb : (x == ("__debug__" : Str)) = false := by decide)
    (he : starEach (e :: es) X.env = (false, eval e X.env) :: starEach es X.env := by rfl) (hpl : (backTo pos (starEach es X.env)).any (·.1) = false := by rfl) : PE X (.Call (.Name x p) (e :: es) [] pos) (T g E (eCall op ml)) :=
  PE.imp (pe_callTy (hc E) hg hm hv ha hn hdb he hpl) fun σ H Q ⟨L, σd, S, rp, sl, ev⟩ => ⟨L, σd, S, rp, sl, ev.step fun ds S1 L1 H1 x1 r1 ev1 vs dn => ⟨L1, S1, ds, r1, dn, ev1⟩⟩

def fLen : LF := fun ds S => match ds with
  | [.pd (.str x)] => if x.length ≤ sizeLine then .ok (.int x.length) S else .stuck
  | [.ref n] => match S[n]? with
    | some (.lst xs) => .ok (.int xs.length) S
    | some (.dct xs) => .ok (.int xs.length) S
    | _ => .stuck
  | [d] => match asQ S d with
    | some xs => .ok (.int xs.length) S
    | none => .stuck
  | _ => .stuck
theorem cx_len (hk : X.K = g.K) : CallX X g (.builtin "len") fLen := by
  intro E pins s σ H xs us Q I r h
  obtain ⟨L, S, ds, rp, dn, ev⟩ := h
  unfold fLen at ev
  split at ev
  · cases dn with
    | cons d1 d2 =>
      cases d2
      cases den_str d1
      split at ev
      · rename_i hz
        exact call_len_str pins s σ H _ us Q I r ⟨_, rfl, hz, fin_val rp ev (.pd (.int _))⟩
      · exact ev.elim
  · rename_i n
    cases dn with
    | cons d1 d2 =>
      cases d2
      cases d1 with
      | @ref _ a hn =>
        split at ev
        · rename_i ys hs
          obtain ⟨a', ha, od⟩ := rp.ob hs
          rw [hn] at ha
          cases ha
          cases od with
          | lst q dz => exact call_len_seq pins s σ H _ us Q I r ⟨a, _, rfl, .inl (.inl (.inl q)), fin_val rp ev (by rw [Paired.len dz]; exact .pd (.int _))⟩
        · rename_i ys hs
          obtain ⟨a', ha, od⟩ := rp.ob hs
          rw [hn] at ha
          cases ha
          cases od with
          | @dct _ ws q dz =>
            obtain ⟨u, rfl, ru⟩ := vals1 r
            cases ru
            exact d_len I (.inl q) fun t s' I' => ⟨.int _, H, I', ⟨t, rfl⟩, fin_val rp ev (by rw [Paired.len dz]; exact .pd (.int _))⟩
        · exact ev.elim
  · rename_i d _ _
    cases dn with
    | cons d1 d2 =>
      cases d2
      split at ev
      · rename_i ys ey
        obtain ⟨a, vs, rfl, rd, dz⟩ := asQ_ok rp d1 ey
        rw [← hk] at rd
        exact call_len_seq pins s σ H _ us Q I r ⟨a, _, rfl, rd, fin_val rp ev (by rw [Paired.len dz]; exact .pd (.int _))⟩
      · exact ev.elim
  · exact ev.elim
def fInt : LF := fun ds S => match ds with
  | [.pd (.int i)] => .ok (.int i) S
  | [.pd (.bool k)] => .ok (.int (if k then 1 else 0)) S
  | _ => .stuck
theorem cx_int : CallX X g (.type "int") fInt := by
  intro E pins s σ H xs us Q I r h
  obtain ⟨L, S, ds, rp, dn, ev⟩ := h
  unfold fInt at ev
  split at ev
  · cases dn with
    | cons d1 d2 =>
      cases d2
      cases den_int d1
      exact call_int1 pins s σ H _ us Q I r (.inl ⟨_, rfl, fin_val rp ev (.pd (.int _))⟩)
  · cases dn with
    | cons d1 d2 =>
      cases d2
      cases den_bl d1
      exact call_int1 pins s σ H _ us Q I r (.inr ⟨_, rfl, fin_val rp ev (.pd (.int _))⟩)
  · exact ev.elim
def fAbs : LF := fun ds S => match ds with
  | [.pd (.int i)] => .ok (.int (if i < 0 then -i else i)) S
  | _ => .stuck
theorem cx_abs : CallX X g (.builtin "abs") fAbs := by
  intro E pins s σ H xs us Q I r h
  obtain ⟨L, S, ds, rp, dn, ev⟩ := h
  unfold fAbs at ev
  split at ev
  · cases dn with
    | cons d1 d2 =>
      cases d2
      cases den_int d1
      exact call_abs pins s σ H _ us Q I r ⟨_, rfl, fin_val rp ev (.pd (.int _))⟩
  · exact ev.elim
def fMax2 : LF := fun ds S => match ds with
  | [.pd (.int i), .pd (.int j)] => .ok (.int (if j > i then j else i)) S
  | _ => .stuck
def fMin2 : LF := fun ds S => match ds with
  | [.pd (.int i), .pd (.int j)] => .ok (.int (if j < i then j else i)) S
  | _ => .stuck
theorem cx_max2 (hc : X.calm = true) : CallX X g (.builtin "max") fMax2 := by
  intro E pins s σ H xs us Q I r h
  obtain ⟨L, S, ds, rp, dn, ev⟩ := h
  unfold fMax2 at ev
  split at ev
  · cases dn with
    | cons d1 d2 =>
      cases d2 with
      | cons d2 d3 =>
        cases d3
        cases den_int d1
        cases den_int d2
        exact call_max2 hc pins s σ H _ us Q I r ⟨_, _, rfl, fin_val rp ev (.pd (.int _))⟩
  · exact ev.elim
theorem cx_min2 (hc : X.calm = true) : CallX X g (.builtin "min") fMin2 := by
  intro E pins s σ H xs us Q I r h
  obtain ⟨L, S, ds, rp, dn, ev⟩ := h
  unfold fMin2 at ev
  split at ev
  · cases dn with
    | cons d1 d2 =>
      cases d2 with
      | cons d2 d3 =>
        cases d3
        cases den_int d1
        cases den_int d2
        exact call_min2 hc pins s σ H _ us Q I r ⟨_, _, rfl, fin_val rp ev (.pd (.int _))⟩
  · exact ev.elim
/-- the ints of a list -/
def intsOf (S : Sto) (d : D) : Option (List Int) := match asL S d with
  | some xs => match pdL xs with
    | some zs => intsL zs
    | none => none
  | none => none
theorem intsOf_ok (r : RepS g L S H) (dn : Den g L H d v) {ns : List Int} (e : intsOf S d = some ns) : ∃ a, v = .ref a ∧ Rd H a (.lst (ns.map V.int)) := by
  unfold intsOf at e
  split at e
  · rename_i xs ex
    split at e
    · rename_i zs ez
      obtain ⟨a, vs, rfl, rd, dz⟩ := asL_ok r dn ex
      have z := dens_dz (pdL_eq ez ▸ dz)
      rw [intsL_eq e] at z
      rw [z.ints] at rd
      exact ⟨a, rfl, rd⟩
    · cases e
  · cases e
def leastI : List Int → Int
  | [] => 0
  | [x] => x
  | x :: xs => min x (leastI xs)
def mostI : List Int → Int
  | [] => 0
  | [x] => x
  | x :: xs => max x (mostI xs)
theorem leastI_spec : ∀ {ns : List Int}, ns ≠ [] → leastI ns ∈ ns ∧ ∀ y ∈ ns, leastI ns ≤ y
  | [], h => absurd rfl h
  | [x], _ => ⟨by simp [leastI], fun y hy => by simp at hy; subst hy; exact Int.le_refl _⟩
  | x :: y :: r, _ => by
    obtain ⟨h1, h2⟩ := leastI_spec (ns := y :: r) (by simp)
    have e : leastI (x :: y :: r) = min x (leastI (y :: r)) := rfl
    rw [e]
    refine ⟨?_, fun z hz => ?_⟩
    · rcases Int.le_total x (leastI (y :: r)) with q | q
      · rw [Int.min_eq_left q]; exact List.mem_cons_self
      · rw [Int.min_eq_right q]; exact List.mem_cons_of_mem _ h1
    · rcases List.mem_cons.mp hz with rfl | hz
      · exact Int.min_le_left _ _
      · exact Int.le_trans (Int.min_le_right _ _) (h2 z hz)
theorem mostI_spec : ∀ {ns : List Int}, ns ≠ [] → mostI ns ∈ ns ∧ ∀ y ∈ ns, y ≤ mostI ns
  | [], h => absurd rfl h
  | [x], _ => ⟨by simp [mostI], fun y hy => by simp at hy; subst hy; exact Int.le_refl _⟩
  | x :: y :: r, _ => by
    obtain ⟨h1, h2⟩ := mostI_spec (ns := y :: r) (by simp)
    have e : mostI (x :: y :: r) = max x (mostI (y :: r)) := rfl
    rw [e]
    refine ⟨?_, fun z hz => ?_⟩
    · rcases Int.le_total x (mostI (y :: r)) with q | q
      · rw [Int.max_eq_right q]; exact List.mem_cons_of_mem _ h1
      · rw [Int.max_eq_left q]; exact List.mem_cons_self
    · rcases List.mem_cons.mp hz with rfl | hz
      · exact Int.le_max_left _ _
      · exact Int.le_trans (h2 z hz) (Int.le_max_right _ _)
def fMin1 : LF := fun ds S => match ds with
  | [d] => match intsOf S d with
    | some ns => if ns ≠ [] then .ok (.int (leastI ns)) S else .stuck
    | none => .stuck
  | _ => .stuck
def fMax1 : LF := fun ds S => match ds with
  | [d] => match intsOf S d with
    | some ns => if ns ≠ [] then .ok (.int (mostI ns)) S else .stuck
    | none => .stuck
  | _ => .stuck
def fSum1 : LF := fun ds S => match ds with
  | [d] => match intsOf S d with
    | some ns => .ok (.int ns.sum) S
    | none => .stuck
  | _ => .stuck
theorem cx_min1 (hc : X.calm = true) : CallX X g (.builtin "min") fMin1 := by
  intro E pins s σ H xs us Q I r h
  obtain ⟨L, S, ds, rp, dn, ev⟩ := h
  unfold fMin1 at ev
  split at ev
  · cases dn with
    | cons d1 d2 =>
      cases d2
      split at ev
      · rename_i ns en
        split at ev
        · rename_i hne
          obtain ⟨a, rfl, rd⟩ := intsOf_ok rp d1 en
          refine cr_min hc pins s σ H _ us Q I r ⟨a, ns, rfl, .inl rd, List.length_pos_iff.mpr hne, fun m hm hle => ?_⟩
          obtain ⟨h1, h2⟩ := leastI_spec hne
          have : m = leastI ns := Int.le_antisymm (hle _ h1) (h2 _ hm)
          subst this
          exact fin_val rp ev (.pd (.int _))
        · exact ev.elim
      · exact ev.elim
  · exact ev.elim
theorem cx_max1 (hc : X.calm = true) : CallX X g (.builtin "max") fMax1 := by
  intro E pins s σ H xs us Q I r h
  obtain ⟨L, S, ds, rp, dn, ev⟩ := h
  unfold fMax1 at ev
  split at ev
  · cases dn with
    | cons d1 d2 =>
      cases d2
      split at ev
      · rename_i ns en
        split at ev
        · rename_i hne
          obtain ⟨a, rfl, rd⟩ := intsOf_ok rp d1 en
          refine cr_max hc pins s σ H _ us Q I r ⟨a, ns, rfl, .inl rd, List.length_pos_iff.mpr hne, fun m hm hle => ?_⟩
          obtain ⟨h1, h2⟩ := mostI_spec hne
          have : m = mostI ns := Int.le_antisymm (h2 _ hm) (hle _ h1)
          subst this
          exact fin_val rp ev (.pd (.int _))
        · exact ev.elim
      · exact ev.elim
  · exact ev.elim
theorem cx_sum1 (hc : X.calm = true) : CallX X g (.builtin "sum") fSum1 := by
  intro E pins s σ H xs us Q I r h
  obtain ⟨L, S, ds, rp, dn, ev⟩ := h
  unfold fSum1 at ev
  split at ev
  · cases dn with
    | cons d1 d2 =>
      cases d2
      split at ev
      · rename_i ns en
        obtain ⟨a, rfl, rd⟩ := intsOf_ok rp d1 en
        exact cr_sum hc pins s σ H _ us Q I r ⟨a, ns, rfl, .inl rd, fin_val rp ev (.pd (.int _))⟩
      · exact ev.elim
  · exact ev.elim
def blsL : List PyData → Option (List Bool)
  | [] => some []
  | .bool b :: r => (blsL r).map (b :: ·)
  | _ :: _ => none
theorem blsL_eq : ∀ {ds : List PyData} {xs : List Bool}, blsL ds = some xs → ds = xs.map .bool
  | [], xs, h => by cases h; rfl
  | .bool x :: r, xs, h => by
    rw [blsL] at h
    cases e : blsL r with
    | none => rw [e] at h; cases h
    | some ys => rw [e] at h; cases h; rw [List.map_cons, blsL_eq e]
  | .none :: r, xs, h => by cases h
  | .int _ :: r, xs, h => by cases h
  | .str _ :: r, xs, h => by cases h
  | .list _ :: r, xs, h => by cases h
  | .tuple _ :: r, xs, h => by cases h
  | .dict _ :: r, xs, h => by cases h
@[simp] theorem blsL_map : ∀ xs : List Bool, blsL (xs.map .bool) = some xs
  | [] => rfl
  | x :: xs => by rw [List.map_cons, blsL, blsL_map xs]; rfl
theorem DzAll.bls {K : PySem.W.Frag} {W : Addr → Prop} : ∀ {xs : List Bool} {vs : List V}, DzAll K W H vs (xs.map .bool) → vs = xs.map V.bl
  | [], _, h => by cases h; rfl
  | x :: xs, _, h => by
    cases h with
    | cons h1 h2 => cases h1; rw [DzAll.bls h2]; rfl
def blsOf (S : Sto) (d : D) : Option (List Bool) := match asL S d with
  | some xs => match pdL xs with
    | some zs => blsL zs
    | none => none
  | none => none
theorem blsOf_ok (r : RepS g L S H) (dn : Den g L H d v) {ns : List Bool} (e : blsOf S d = some ns) : ∃ a, v = .ref a ∧ Rd H a (.lst (ns.map V.bl)) := by
  unfold blsOf at e
  split at e
  · rename_i xs ex
    split at e
    · rename_i zs ez
      obtain ⟨a, vs, rfl, rd, dz⟩ := asL_ok r dn ex
      have z := dens_dz (pdL_eq ez ▸ dz)
      rw [blsL_eq e] at z
      rw [z.bls] at rd
      exact ⟨a, rfl, rd⟩
    · cases e
  · cases e
def fAll : LF := fun ds S => match ds with
  | [d] => match blsOf S d with
    | some bs => .ok (.bl (bs.all fun b => b)) S
    | none => .stuck
  | _ => .stuck
def fAny : LF := fun ds S => match ds with
  | [d] => match blsOf S d with
    | some bs => .ok (.bl (bs.any fun b => b)) S
    | none => .stuck
  | _ => .stuck
theorem cx_all (hc : X.calm = true) : CallX X g (.builtin "all") fAll := by
  intro E pins s σ H xs us Q I r h
  obtain ⟨L, S, ds, rp, dn, ev⟩ := h
  unfold fAll at ev
  split at ev
  · cases dn with
    | cons d1 d2 =>
      cases d2
      split at ev
      · rename_i ns en
        obtain ⟨a, rfl, rd⟩ := blsOf_ok rp d1 en
        exact cr_all hc pins s σ H _ us Q I r ⟨a, ns, rfl, .inl rd, fin_val rp ev (.pd (.bl _))⟩
      · exact ev.elim
  · exact ev.elim
theorem cx_any (hc : X.calm = true) : CallX X g (.builtin "any") fAny := by
  intro E pins s σ H xs us Q I r h
  obtain ⟨L, S, ds, rp, dn, ev⟩ := h
  unfold fAny at ev
  split at ev
  · cases dn with
    | cons d1 d2 =>
      cases d2
      split at ev
      · rename_i ns en
        obtain ⟨a, rfl, rd⟩ := blsOf_ok rp d1 en
        exact cr_any hc pins s σ H _ us Q I r ⟨a, ns, rfl, .inl rd, fin_val rp ev (.pd (.bl _))⟩
      · exact ev.elim
  · exact ev.elim
/-- tuple(list), tuple(tuple) -/
def fTuple : LF := fun ds S => match ds with
  | [.pd (.tuple xs)] => .ok (.tup xs) S
  | [d] => match asL S d with
    | some xs => match pdL xs with
      | some zs => .ok (.tup zs) S
      | none => .stuck
    | none => .stuck
  | _ => .stuck
theorem cx_tuple (hk : X.K = g.K) : CallX X g (.type "tuple") fTuple := by
  intro E pins s σ H xs us Q I r h
  obtain ⟨L, S, ds, rp, dn, ev⟩ := h
  unfold fTuple at ev
  split at ev
  · cases dn with
    | cons d1 d2 =>
      cases d2
      obtain ⟨a, vs, rfl, rd, dz⟩ := den_tup d1
      rw [← hk] at rd
      exact call_tuple_of pins s σ H _ us Q I r ⟨a, vs, rfl, .inr ⟨rd, fin_val rp ev d1⟩⟩
  · cases dn with
    | cons d1 d2 =>
      cases d2
      split at ev
      · rename_i ys ey
        split at ev
        · rename_i zs ez
          obtain ⟨a, vs, rfl, rd, dz⟩ := asL_ok rp d1 ey
          have z := dens_dz (pdL_eq ez ▸ dz)
          exact call_tuple_of pins s σ H _ us Q I r ⟨a, vs, rfl, .inl ⟨.inl rd, fin_tup rp ev z⟩⟩
        · exact ev.elim
      · exact ev.elim
  · exact ev.elim
/-- list(list), list(tuple), a list that stays; one of the store's -/
def fList : LF := fun ds S => match ds with
  | [d] => match asQ S d with
    | some xs => match pdL xs with
      | some zs => .ok (.lst zs) S
      | none => .stuck
    | none => .stuck
  | _ => .stuck
def fListM : LF := fun ds S => match ds with
  | [d] => match asQ S d with
    | some xs => .ok (.ref S.length) (S ++ [.lst xs])
    | none => .stuck
  | _ => .stuck
theorem cx_list (hk : X.K = g.K) : CallX X g (.type "list") fList := by
  intro E pins s σ H xs us Q I r h
  obtain ⟨L, S, ds, rp, dn, ev⟩ := h
  unfold fList at ev
  split at ev
  · cases dn with
    | cons d1 d2 =>
      cases d2
      split at ev
      · rename_i ys ey
        split at ev
        · rename_i zs ez
          obtain ⟨a, vs, rfl, rd, dz⟩ := asQ_ok rp d1 ey
          rw [← hk] at rd
          have z := dens_dz (pdL_eq ez ▸ dz)
          exact call_list_of pins s σ H _ us Q I r ⟨a, vs, rfl, rd, fin_lst rp ev z⟩
        · exact ev.elim
      · exact ev.elim
  · exact ev.elim
theorem cx_listM (hk : X.K = g.K) : CallX X g (.type "list") fListM := by
  intro E pins s σ H xs us Q I r h
  obtain ⟨L, S, ds, rp, dn, ev⟩ := h
  unfold fListM at ev
  split at ev
  · cases dn with
    | cons d1 d2 =>
      cases d2
      split at ev
      · rename_i ys ey
        obtain ⟨a, vs, rfl, rd, dz⟩ := asQ_ok rp d1 ey
        rw [← hk] at rd
        exact call_list_of pins s σ H _ us Q I r ⟨a, vs, rfl, rd, fin_lstM rp ev dz⟩
      · exact ev.elim
  · exact ev.elim
/-- isinstance by a built-in class -/
inductive TyN where
  | int | bool | str | tuple | list | dict
def TyN.nm : TyN → String
  | .int => "int" | .bool => "bool" | .str => "str" | .tuple => "tuple" | .list => "list" | .dict => "dict"
def isTy (S : Sto) : TyN → D → Option Bool
  | .int, .pd (.int _) => some true
  | .int, .pd (.bool _) => some true
  | .bool, .pd (.bool _) => some true
  | .str, .pd (.str _) => some true
  | .tuple, .pd (.tuple _) => some true
  | .list, .pd (.list _) => some true
  | .dict, .pd (.dict _) => some true
  | _, .pd _ => some false
  | t, .ref n => match S[n]? with
    | some (.lst _) => match t with
      | .list => some true
      | _ => some false
    | some (.dct _) => match t with
      | .dict => some true
      | _ => some false
    | _ => none
  | _, .glob _ => none
def tyNm : PyData → String
  | .none => "NoneType" | .bool _ => "bool" | .int _ => "int" | .str _ => "str" | .list _ => "list" | .tuple _ => "tuple" | .dict _ => "dict"
theorem dz_ty {K : PySem.W.Frag} {W : Addr → Prop} {d : PyData} (h : Dz K W H v d) : TyX K H v (.type (tyNm d)) := by
  cases h with
  | non => exact .base .non
  | bl b => exact .base (.bl b)
  | int b => exact .base (.int b)
  | str b => exact .base (.str b)
  | lst n r _ =>
    rcases r with r | ⟨o, r⟩
    · exact .base (.lst r)
    · exact .base (.frz r)
  | tup r _ =>
    rcases r with (r | ⟨o, r⟩) | ⟨o, its, n, e, c, _⟩
    · exact .base (.tup r)
    · exact .fTuple r
    · exact .kTuple e c
  | dct n r _ _ =>
    rcases r with r | ⟨o, r⟩
    · exact .base (.dK r)
    · exact .fDict r
def eIsI (t : TyN) (m : DM D) : DM D := mBind m fun d => fun _ S => match isTy S t d with
  | some b => .ok (.bl b) S
  | none => .stuck
theorem kit_all (t : TyN) (d : PyData) : ∃ b, isTy S t (.pd d) = some b ∧ kitB (tyNm d) t.nm = some b := by
  cases t <;> cases d <;> first
    | exact ⟨true, rfl, by show kitB _ _ = some true; simp only [tyNm, TyN.nm]; decide +kernel⟩
    | exact ⟨false, rfl, by show kitB _ _ = some false; simp only [tyNm, TyN.nm]; decide +kernel⟩
theorem px_isi (hk : X.K = g.K) (t : TyN) {y : Str} (hy : y = Str.ofString t.nm) (hg : Gl X "isinstance") (hm : X.mg "isinstance" = none) (hg2 : Gl X y) (hm2 : X.mg y = none) (ha : PE X a (T g E ma))
    (he : starEach [a, .Name y p2] X.env = (false, eval a X.env) :: starEach [.Name y p2] X.env := by rfl) : PE X (.Call (.Name "isinstance" p) [a, .Name y p2] [] pos) (T g E (eIsI t ma)) := by
  have hT : PE X (.Name y p2) (tC (.ty t.nm)) := by
    subst hy
    refine pe_bltn (v := .ty t.nm) (u := .type t.nm) hg2 hm2 ?_ rfl ?_ ?_
    · cases t <;> decide +kernel
    · cases t <;> decide
    · cases t <;> decide
  refine PE.imp (pe_callB call_isi hg hm (by decide +kernel) (pa_cons ha (pa_cons hT pa_nil) he) (by decide) (by decide) he) fun σ H Q ⟨L, σd, S, rp, sl, ev⟩ => ⟨L, σd, S, rp, sl, ev.step fun d S1 L1 H1 x1 r1 ev1 v dn => ?_⟩
  cases eb : isTy S1 t d with
  | none => rw [eb] at ev1; exact ev1.elim
  | some b =>
    rw [eb] at ev1
    have tyx : ∃ nm, TyX X.K H1 v (.type nm) ∧ kitB nm t.nm = some b := by
      cases dn with
      | @pd d _ h =>
        obtain ⟨b', e1, e2⟩ := kit_all (S := S1) t d
        rw [eb] at e1
        cases e1
        exact ⟨_, by rw [hk]; exact dz_ty h, e2⟩
      | @ref n a hn =>
        unfold isTy at eb
        cases hs : S1[n]? with
        | none => simp only [hs] at eb; cases t <;> simp at eb
        | some ob =>
          obtain ⟨a', ha', od⟩ := r1.ob hs
          rw [hn] at ha'
          cases ha'
          cases od with
          | lst q _ =>
            refine ⟨"list", .base (.lst q), ?_⟩
            cases t <;> (simp only [hs] at eb; cases eb; decide +kernel)
          | dct q _ =>
            refine ⟨"dict", .base (.dK q), ?_⟩
            cases t <;> (simp only [hs] at eb; cases eb; decide +kernel)
          | dtt q _ => cases t <;> simp [hs] at eb
          | ins _ q _ => cases t <;> simp [hs] at eb
      | glob h => cases t <;> cases eb
    obtain ⟨nm, ty, kb⟩ := tyx
    exact ⟨v, .ty t.nm, .type nm, .type t.nm, b, rfl, .ty _, ty, kit_ty kb, fin_val r1 ev1 (.pd (.bl _))⟩
end
end DL
end
section
namespace DL
open PySem PySem.Spec PyProof.Rows L2
section
variable {g g' : G} {E : WX} {L L' L0 : List Addr} {H H' H0 : Hp} {S S' : Sto} {σd : Sl} {σ : L2.St} {v : V} {d : D}
variable {X : Cx} {x : Str} {p p2 pos : Pos} {e a b : Expr} {es : List Expr} {ml : DM (List D)} {ma mb : DM D} {bid Ty : String} {op : LF}

/-! ### repr -/
def reprOk (x : PyData) : Bool := !x.hasDict && x.showable && decide (x.depth ≤ 60) && decide (x.shown.length ≤ sizeLine)
def fRepr : LF := fun ds S => match ds with
  | [d] => match view S d with
    | some x => if reprOk x = true then .ok (.str x.shown) S else .stuck
    | none => .stuck
  | _ => .stuck
theorem cx_repr (hk : X.K = g.K) (hu : X.A.units + 64 < cLine) (hgd : X.A.guards = some []) : CallX X g (.builtin "repr") fRepr := by
  intro E pins s σ H xs us Q I r h
  obtain ⟨L, S, ds, rp, dn, ev⟩ := h
  unfold fRepr at ev
  split at ev
  · rename_i d
    cases dn with
    | cons d1 d2 =>
      cases d2
      split at ev
      · rename_i x ex
        split at ev
        · rename_i hr
          unfold reprOk at hr
          simp only [Bool.and_eq_true, Bool.not_eq_true', decide_eq_true_eq] at hr
          obtain ⟨⟨⟨h1, h2⟩, h3⟩, h4⟩ := hr
          have dp := view_dz rp d1 ex h1
          rw [← hk] at dp
          obtain ⟨u, rfl, ru⟩ := vals1 r
          have fin : ∀ {u tk h'}, (∀ b o, s.heap.get? b = some o → h'.get? b = some o) → EP X pins σ Q (.str x.shown u) { s with heap := h', toks := tk } := fun {u tk h'} k =>
            ⟨.str x.shown, H, I.kept k, ⟨u, rfl⟩, fin_val rp ev (.pd (.str _))⟩
          cases dp with
          | non => cases ru; exact PySem.P.repr_of_none (fin (h' := s.heap) fun _ _ e => e)
          | bl b => cases ru; exact PySem.P.repr_of_bool (by cases b <;> exact fin (h' := s.heap) fun _ _ e => e)
          | int i =>
            obtain ⟨t, rfl⟩ := ru
            exact PySem.P.repr_of_int (by simpa [PyData.showable] using h2) (fin (h' := s.heap) fun _ _ e => e)
          | str z =>
            obtain ⟨t, rfl⟩ := ru
            exact PySem.P.repr_of_str (fin (h' := s.heap) fun _ _ e => e) h4
          | lst hs ha =>
            obtain ⟨as, rd⟩ := Dp.reads I _ _ u (.lst hs ha) ru
            cases ru
            exact repr_of_reads' rd h2 (fun z => by rw [h1] at z; cases z) hgd (by omega) (fun _ _ e => e) (fun h' u tk k => fin k) h4
          | tup hs ha =>
            obtain ⟨as, rd⟩ := Dp.reads I _ _ u (.tup hs ha) ru
            cases ru
            exact repr_of_reads' rd h2 (fun z => by rw [h1] at z; cases z) hgd (by omega) (fun _ _ e => e) (fun h' u tk k => fin k) h4
        · exact ev.elim
      · exact ev.elim
  · exact ev.elim

/-! ### methods of built-in types -/
abbrev MF := D → List D → Sto → Out D
def MtX (X : Cx) (g : G) (id : String) (op : MF) : Prop :=
  ∀ E : WX, MtM X id (fun x xs H Q => ∃ L S d ds, RepS g L S H ∧ Den g L H d x ∧ Dens g L H ds xs ∧ Ev g E L H (op d ds S) (PV g Q))
def tyD (S : Sto) : D → Option String
  | .pd (.str _) => some "str"
  | .pd (.list _) => some "list"
  | .ref n => match S[n]? with
    | some (.lst _) => some "list"
    | some (.dct _) => some "dict"
    | some (.dtt _) => some "dict"
    | _ => none
  | _ => none
theorem tyD_ok {K : PySem.W.Frag} (hk : K = g.K) (r : RepS g L S H) (dn : Den g L H d v) {t : String} (e : tyD S d = some t) : tyV K t v H := by
  subst hk
  unfold tyD at e
  split at e
  · cases e; cases den_str dn; exact rfl
  · cases e
    obtain ⟨a, vs, rfl, rd, _⟩ := den_lst dn
    exact .inl ⟨rfl, _, .inl rd⟩
  · cases dn with
    | ref hn =>
      split at e
      · rename_i hs
        cases e
        obtain ⟨a, ha, od⟩ := r.ob hs
        rw [hn] at ha
        cases ha
        cases od with
        | lst q _ => exact .inl ⟨rfl, _, SqL.of q⟩
      · rename_i hs
        cases e
        obtain ⟨a, ha, od⟩ := r.ob hs
        rw [hn] at ha
        cases ha
        cases od with
        | dct q _ => exact .inr (.inr (.inl ⟨rfl, .inl ⟨_, q⟩⟩))
      · rename_i hs
        cases e
        obtain ⟨a, ha, od⟩ := r.ob hs
        rw [hn] at ha
        cases ha
        cases od with
        | dtt q _ => exact .inr (.inr (.inl ⟨rfl, .inr ⟨_, q⟩⟩))
      · cases e
  · cases e
def eMeth (t : String) (op : MF) (mo : DM D) (ml : DM (List D)) : DM D := mBind mo fun d => fun σ S => if tyD S d = some t then mBind ml (fun ds => fun _ S => op d ds S) σ S else .stuck
variable {o : Expr} {mo : DM D} {name : Str} {apos cpos : Pos} {Tn id : String} {mop : MF}
theorem px_bm (hk : X.K = g.K) (pa : PlainAttrs Tn) (slot : Slot Tn name id) (hty : typeOf (.builtin id) = pure (.type "method_descriptor")) (hm : MtX X g id mop) (ho : PE X o (T g E mo)) (ha : PA X (e :: es) (TL g E ml))
    (hbase : attributeBase o name X.env (eval o X.env) = eval o X.env := by rfl)
    (hfew : ((backTo cpos (starEach (e :: es) X.env)).all (fun x => !x.1) && (backToKw cpos (keywordEach [] X.env)).all (fun x => x.1.isSome)
      && decide ((e :: es).length + ([] : List Keyword).length + (if ([] : List Keyword).isEmpty then 0 else 1) < 30)) = true := by rfl)
    (hline : (apos.endLine == cpos.line) = true := by rfl) (hs : starEach (e :: es) X.env = (false, eval e X.env) :: starEach es X.env := by rfl) (hplain : (backTo cpos (starEach es X.env)).any (·.1) = false := by rfl) :
    PE X (.Call (.Attribute o name apos) (e :: es) [] cpos) (T g E (eMeth Tn mop mo ml)) :=
  PE.imp (pe_bm pa slot hty (hm E) ho ha hbase hfew hline hs hplain) fun σ H Q ⟨L, σd, S, rp, sl, ev⟩ => ⟨L, σd, S, rp, sl, ev.step fun d S1 L1 H1 x1 r1 ev1 v dn => by
    split at ev1
    · rename_i ht
      exact ⟨tyD_ok hk r1 dn ht, L1, σd, S1, r1, sl.ext rp x1, ev1.step fun ds S2 L2 H2 x2 r2 ev2 vs dns => ⟨L2, S2, d, ds, r2, dn.ext r1 x2, dns, ev2⟩⟩
    · exact ev1.elim⟩
theorem px_bm0 (hk : X.K = g.K) (pa : PlainAttrs Tn) (slot : Slot Tn name id) (hty : typeOf (.builtin id) = pure (.type "method_descriptor")) (hm : MtX X g id mop) (ho : PE X o (T g E mo))
    (hbase : attributeBase o name X.env (eval o X.env) = eval o X.env := by rfl) (hline : (apos.endLine == cpos.line) = true := by rfl) : PE X (.Call (.Attribute o name apos) [] [] cpos) (T g E (eMeth Tn mop mo lNil)) :=
  PE.imp (pe_bm0 pa slot hty (hm E) ho hbase hline) fun σ H Q ⟨L, σd, S, rp, sl, ev⟩ => ⟨L, σd, S, rp, sl, ev.step fun d S1 L1 H1 x1 r1 ev1 v dn => by
    split at ev1
    · rename_i ht
      exact ⟨tyD_ok hk r1 dn ht, L1, S1, d, [], r1, dn, .nil, ev1⟩
    · exact ev1.elim⟩

/-! ### a list of the store changed -/
theorem wr_list {Q : VK} {n : Nat} {a : Addr} {ds' : List D} {vs' : List V} {r : D} {w : V} (rp : RepS g L S H) (hn : L[n]? = some a) (dn' : Dens g L H ds' vs') (dr : Den g L H r w)
    (ev : Ev g E L H (.ok r (S.set n (.lst ds'))) (PV g Q)) : Q w (upd H a (.lst vs')) := by
  have xw : Ext g L H L (upd H a (.lst vs')) := Ext.write hn
  exact ev L _ xw (rp.write hn ⟨fun _ => by simp, fun _ _ => by simp⟩ (.lst upd_same (dn'.ext rp xw))) w (dr.ext rp xw)
def lstAt (S : Sto) : D → Option (Nat × List D)
  | .ref n => match S[n]? with
    | some (.lst xs) => some (n, xs)
    | _ => none
  | _ => none
theorem lstAt_ok (r : RepS g L S H) (dn : Den g L H d v) {n : Nat} {xs : List D} (e : lstAt S d = some (n, xs)) : ∃ a vs, v = .ref a ∧ L[n]? = some a ∧ H a = some (.lst vs) ∧ Dens g L H xs vs := by
  unfold lstAt at e
  split at e
  · cases dn with
    | ref hn =>
      split at e
      · rename_i hs
        cases e
        obtain ⟨a, ha, od⟩ := r.ob hs
        rw [hn] at ha
        cases ha
        cases od with
        | lst q ds => exact ⟨_, _, rfl, hn, q, ds⟩
      · cases e
  · cases e
def mAppend : MF := fun d ds S => match ds with
  | [y] => match lstAt S d with
    | some (n, xs) => if xs.length < sizeLine then .ok .non (S.set n (.lst (xs ++ [y]))) else .stuck
    | none => .stuck
  | _ => .stuck
theorem mx_append : MtX X g "list.append" mAppend := by
  intro E pins s σ H x xs v us Q I rx rv h
  obtain ⟨L, S, d, ds, rp, dn, dns, ev⟩ := h
  unfold mAppend at ev
  split at ev
  · rename_i y
    cases dns with
    | cons d1 d2 =>
      cases d2
      split at ev
      · rename_i n zs ez
        split at ev
        · rename_i hz
          obtain ⟨a, vs, rfl, hn, ha, dz⟩ := lstAt_ok rp dn ez
          exact mt_append pins s σ H _ _ v us Q I rx rv ⟨a, vs, _, rfl, rfl, ha, by rw [← Paired.len dz]; exact hz, wr_list rp hn (Dens.app dz (.cons d1 .nil)) (.pd .non) ev⟩
        · exact ev.elim
      · exact ev.elim
  · exact ev.elim
def mPopAt : MF := fun d ds S => match ds with
  | [.pd (.int i)] => match lstAt S d with
    | some (n, xs) => if -(2 ^ 63) ≤ i ∧ i < 2 ^ 63 then (match seqIndex? i xs.length with
      | some k => match xs[k]? with
        | some y => .ok y (S.set n (.lst (xs.eraseIdx k)))
        | none => .stuck
      | none => .stuck) else .stuck
    | none => .stuck
  | _ => .stuck
theorem Paired.eraseIdx {α β : Type} {F : α → β → Prop} : ∀ {l : List α} {l' : List β} (i : Nat), Paired F l l' → Paired F (l.eraseIdx i) (l'.eraseIdx i)
  | _, _, _, .nil => .nil
  | _, _, 0, .cons _ t => t
  | _, _, i + 1, .cons r t => .cons r (Paired.eraseIdx i t)
theorem Paired.dropLast {α β : Type} {F : α → β → Prop} : ∀ {l : List α} {l' : List β}, Paired F l l' → Paired F l.dropLast l'.dropLast
  | _, _, .nil => .nil
  | _, _, .cons _ .nil => .nil
  | _, _, .cons r (.cons r' t) => .cons r (Paired.dropLast (.cons r' t))
theorem mx_popAt : MtX X g "list.pop" mPopAt := by
  intro E pins s σ H x xs v us Q I rx rv h
  obtain ⟨L, S, d, ds, rp, dn, dns, ev⟩ := h
  unfold mPopAt at ev
  split at ev
  · rename_i i
    cases dns with
    | cons d1 d2 =>
      cases d2
      cases den_int d1
      split at ev
      · rename_i n zs ez
        split at ev
        · rename_i hi
          obtain ⟨a, vs, rfl, hn, ha, dz⟩ := lstAt_ok rp dn ez
          split at ev
          · rename_i k hk
            split at ev
            · rename_i y hy
              obtain ⟨w, hw, dw⟩ := Paired.get dz hy
              exact mt_popAt pins s σ H _ _ v us Q I rx rv ⟨a, vs, i, k, w, rfl, rfl, ha, hi.1, hi.2, by rw [← Paired.len dz]; exact hk, hw, wr_list rp hn (Paired.eraseIdx k dz) dw ev⟩
            · exact ev.elim
          · exact ev.elim
        · exact ev.elim
      · exact ev.elim
  · exact ev.elim
def mPop : MF := fun d ds S => match ds with
  | [] => match lstAt S d with
    | some (n, xs) => (match xs[xs.length - 1]? with
        | some y => .ok y (S.set n (.lst xs.dropLast))
        | none => .stuck)
    | none => .stuck
  | _ => .stuck
theorem mx_pop : MtX X g "list.pop" mPop := by
  intro E pins s σ H x xs v us Q I rx rv h
  obtain ⟨L, S, d, ds, rp, dn, dns, ev⟩ := h
  unfold mPop at ev
  split at ev
  · cases dns
    split at ev
    · rename_i n zs ez
      obtain ⟨a, vs, rfl, hn, ha, dz⟩ := lstAt_ok rp dn ez
      split at ev
      · rename_i y hy
        obtain ⟨w, hw, dw⟩ := Paired.get dz hy
        exact mt_pop pins s σ H _ _ v us Q I rx rv ⟨a, vs, w, rfl, rfl, ha, by rw [← Paired.len dz]; exact hw, wr_list rp hn (Paired.dropLast dz) dw ev⟩
      · exact ev.elim
    · exact ev.elim
  · exact ev.elim
def rExtendR : V → List V → Hp → VK → Prop := fun x vs H Q => ∃ l b xs zs, x = .ref l ∧ vs = [.ref b] ∧ H l = some (.lst xs) ∧ Rd H b (.lst zs) ∧ xs.length + zs.length ≤ sizeLine ∧ Q .non (upd H l (.lst (xs ++ zs)))
theorem mt_extendR : MtM X "list.extend" rExtendR := by
  intro pins s σ H x vs v us Q I rx rv h
  obtain ⟨l, b, xs, zs, rfl, rfl, hH, hB, hz, q⟩ := h
  cases rx
  obtain ⟨u, rfl, ru⟩ := rv.one
  cases ru
  obtain ⟨z, its, n, r, hl, e⟩ := I.lstM hH
  obtain ⟨z2, its2, n2, r2, hl2, e2⟩ := I.lstR hB
  have hsz : its.toArray.size + its2.toArray.size ≤ sizeLine := by rw [List.size_toArray, List.size_toArray]; omega
  have hlong : ¬ (!its.toArray.isEmpty && Builtin.List.listTooLong (its.toArray.size + its2.toArray.size)) = true := by
    rw [notLongL hsz, Bool.and_false]
    exact Bool.false_ne_true
  refine call_meets F.slot_list_extend ⟨_, e, rfl⟩ F.entry_list_extend (F.args_list_extend_2 _ _)
    (AutoSeq1.list_extend_list_list_0 l its.toArray n b its2.toArray n2 hlong (by rw [List.size_toArray]; omega) (by omega)) ⟨e, e2, ?_⟩
  refine ⟨.non, _, I.lset (its' := its ++ its2) hH e (by simp) (r.append r2) ?_, rfl, q⟩
  rw [List.length_append]
  omega
def mExtend : MF := fun d ds S => match ds with
  | [y] => match lstAt S d, asL S y with
    | some (n, xs), some zs => if xs.length + zs.length ≤ sizeLine then .ok .non (S.set n (.lst (xs ++ zs))) else .stuck
    | _, _ => .stuck
  | _ => .stuck
theorem mx_extend : MtX X g "list.extend" mExtend := by
  intro E pins s σ H x xs v us Q I rx rv h
  obtain ⟨L, S, d, ds, rp, dn, dns, ev⟩ := h
  unfold mExtend at ev
  split at ev
  · rename_i y
    cases dns with
    | cons d1 d2 =>
      cases d2
      split at ev
      · rename_i n ys zs ez ew
        split at ev
        · rename_i hz
          obtain ⟨a, vs, rfl, hn, ha, dz⟩ := lstAt_ok rp dn ez
          obtain ⟨b, ws, rfl, hb, dw⟩ := asL_ok rp d1 ew
          exact mt_extendR pins s σ H _ _ v us Q I rx rv ⟨a, b, vs, ws, rfl, rfl, ha, hb, by rw [← Paired.len dz, ← Paired.len dw]; exact hz, wr_list rp hn (Dens.app dz dw) (.pd .non) ev⟩
        · exact ev.elim
      · exact ev.elim
  · exact ev.elim
end
end DL
end
section
namespace DL
open PySem PySem.Spec PyProof.Rows L2
open Classical

/-! ### dicts, keys ints or texts -/
def keyD : D → Option Key
  | .pd (.int i) => some (.inl i)
  | .pd (.str x) => some (.inr x)
  | _ => none
def valD (kvs : List (Key × D)) (k : Key) : Option D := (kvs.find? fun kv => decide (kv.1 = k)).map (·.2)
def putD (kvs : List (Key × D)) (k : Key) (v : D) : List (Key × D) := if (kvs.any fun kv => decide (kv.1 = k)) = true then kvs.map (fun kv => if kv.1 = k then (kv.1, v) else kv) else kvs ++ [(k, v)]
def dctAt (S : Sto) : D → Option (Nat × List (Key × D))
  | .ref n => match S[n]? with
    | some (.dct xs) => some (n, xs)
    | _ => none
  | _ => none
section
variable {g g' : G} {E : WX} {L L' L0 : List Addr} {H H' H0 : Hp} {S S' : Sto} {σd : Sl} {σ : L2.St} {v : V} {d : D}
abbrev KvDen (g : G) (L : List Addr) (H : Hp) : List (Key × D) → List (Key × V) → Prop := Paired (fun p q => p.1 = q.1 ∧ Den g L H p.2 q.2)
theorem keyD_ok (dn : Den g L H d v) {k : Key} (e : keyD d = some k) : v = kV k := by
  unfold keyD at e
  split at e
  · cases e; exact den_int dn
  · cases e; exact den_str dn
  · cases e
theorem valD_ok {k : Key} : ∀ {kvs : List (Key × D)} {ws : List (Key × V)}, KvDen g L H kvs ws → (∀ d, valD kvs k = some d → ∃ v, valV ws k = some v ∧ Den g L H d v) ∧ (valD kvs k = none → valV ws k = none)
  | _, _, .nil => ⟨fun d e => (by cases e), fun _ => rfl⟩
  | (a, x) :: r, (b, y) :: r', .cons h t => by
    obtain ⟨e, dn⟩ := h
    have e : a = b := e
    subst e
    by_cases q : a = k
    · refine ⟨fun d e => ?_, fun e => ?_⟩
      · have : valD ((a, x) :: r) k = some x := by simp [valD, List.find?_cons, q]
        rw [this] at e
        cases e
        exact ⟨y, valV_pos q, dn⟩
      · have : valD ((a, x) :: r) k = some x := by simp [valD, List.find?_cons, q]
        rw [this] at e
        cases e
    · have e1 : valD ((a, x) :: r) k = valD r k := by simp [valD, List.find?_cons, q]
      rw [e1, valV_neg q]
      exact valD_ok t
theorem kv_any {k : Key} : ∀ {kvs : List (Key × D)} {ws : List (Key × V)}, KvDen g L H kvs ws → (kvs.any fun kv => decide (kv.1 = k)) = (ws.any fun kv => decide (kv.1 = k))
  | _, _, .nil => rfl
  | (a, x) :: r, (b, y) :: r', .cons h t => by
    have e : a = b := h.1
    subst e
    rw [List.any_cons, List.any_cons, kv_any t]
theorem kv_map {k : Key} {x : D} {y : V} (dn : Den g L H x y) : ∀ {kvs : List (Key × D)} {ws : List (Key × V)}, KvDen g L H kvs ws → KvDen g L H (kvs.map fun kv => if kv.1 = k then (kv.1, x) else kv) (ws.map fun kv => if kv.1 = k then (kv.1, y) else kv)
  | _, _, .nil => .nil
  | (a, x') :: r, (b, y') :: r', .cons h t => by
    obtain ⟨e, dn'⟩ := h
    have e : a = b := e
    subst e
    refine .cons ?_ (kv_map dn t)
    by_cases q : a = k
    · simp only [q, if_true]; exact ⟨trivial, dn⟩
    · simp only [q, if_false]; exact ⟨trivial, dn'⟩
theorem putD_ok {k : Key} {x : D} {y : V} (dn : Den g L H x y) {kvs : List (Key × D)} {ws : List (Key × V)} (h : KvDen g L H kvs ws) : KvDen g L H (putD kvs k x) (putK ws k y) := by
  unfold putD putK
  rw [kv_any h]
  split
  · exact kv_map dn h
  · exact Paired.app h (.cons ⟨rfl, dn⟩ .nil)
theorem KvDen.ext (r : RepS g L S H) (x : Ext g L H L' H') {kvs : List (Key × D)} {ws : List (Key × V)} (h : KvDen g L H kvs ws) : KvDen g L' H' kvs ws := Paired.imp h fun _ _ q => ⟨q.1, q.2.ext r x⟩
theorem dctAt_ok (r : RepS g L S H) (dn : Den g L H d v) {n : Nat} {xs : List (Key × D)} (e : dctAt S d = some (n, xs)) : ∃ a vs, v = .ref a ∧ L[n]? = some a ∧ H a = some (.dK vs) ∧ KvDen g L H xs vs := by
  unfold dctAt at e
  split at e
  · cases dn with
    | ref hn =>
      split at e
      · rename_i hs
        cases e
        obtain ⟨a, ha, od⟩ := r.ob hs
        rw [hn] at ha
        cases ha
        cases od with
        | dct q ds => exact ⟨_, _, rfl, hn, q, ds⟩
      · cases e
  · cases e
variable {X : Cx} {x : Str} {p p2 pos pos' : Pos} {o i e a b value : Expr} {es : List Expr} {ml : DM (List D)} {ma mb mo mi mv : DM D}
/-- d[k] -/
def opDIx : D → D → Sto → Out D := fun x y S => match dctAt S x, keyD y with
  | some (_, kvs), some k => match valD kvs k with
    | some d => .ok d S
    | none => .stuck
  | _, _ => .stuck
theorem px_dix (hu : X.A.units + 1 < cLine) (ho : PE X o (T g E mo)) (hi : PE X i (T g E mi)) (hs : NoSl i := by intro _ _; rfl) : PE X (.Subscript o i pos) (T g E (eOp opDIx mo mi)) :=
  PE.imp (pe_dget hu ho hi hs) fun σ H Q ⟨L, σd, S, rp, sl, ev⟩ => ⟨L, σd, S, rp, sl, ev.step fun dx S1 L1 H1 x1 r1 ev1 x n1 => ⟨L1, σd, S1, r1, sl.ext rp x1, ev1.step fun dy S2 L2 H2 x2 r2 ev2 y n2 => by
    unfold opDIx at ev2
    split at ev2
    · rename_i n kvs k e1 e2
      split at ev2
      · rename_i d ed
        obtain ⟨a, ws, rfl, _, ha, kd⟩ := dctAt_ok r2 (n1.ext r1 x2) e1
        obtain ⟨w, ew, dw⟩ := (valD_ok kd).1 d ed
        exact ⟨a, w, rfl, .inl ⟨ws, k, .inl ha, keyD_ok n2 e2, ew.symm⟩, fin_val r2 ev2 dw⟩
      · exact ev2.elim
    · exact ev2.elim⟩⟩
/-- k in d -/
def opDIn (ne : Bool) : D → D → Sto → Out D := fun y x S => match dctAt S x, keyD y with
  | some (_, kvs), some k => .ok (.bl (ne != (valD kvs k).isSome)) S
  | _, _ => .stuck
theorem din_some {kvs : List (Key × D)} {ws : List (Key × V)} {k : Key} (kd : KvDen g L H kvs ws) : (valV ws k).isSome = (valD kvs k).isSome := by
  cases e : valD kvs k with
  | none => rw [(valD_ok kd).2 e]; rfl
  | some d => obtain ⟨w, ew, _⟩ := (valD_ok kd).1 d e; rw [ew]; rfl
theorem pc_dinX (hu : X.A.units + 1 < cLine) (hi : PE X i (T g E mi)) (ho : PE X o (T g E mo)) : PC X .In i o (T g E (eOp (opDIn false) mi mo)) :=
  ⟨fun pins s σ H Q I ⟨L, σd, S, rp, sl, ev⟩ => (pc_din hu hi ho).run pins s σ H Q I ⟨L, σd, S, rp, sl, ev.step fun dx S1 L1 H1 x1 r1 ev1 x n1 => ⟨L1, σd, S1, r1, sl.ext rp x1, ev1.step fun dy S2 L2 H2 x2 r2 ev2 y n2 => by
    unfold opDIn at ev2
    split at ev2
    · rename_i n kvs k e1 e2
      obtain ⟨a, ws, rfl, _, ha, kd⟩ := dctAt_ok r2 n2 e1
      refine ⟨a, _, rfl, .inl ⟨ws, k, .inl ha, keyD_ok (n1.ext r1 x2) e2, rfl⟩, ?_⟩
      rw [din_some kd]
      exact fin_val r2 ev2 (by cases (valD kvs k).isSome <;> exact .pd (.bl _))
    · exact ev2.elim⟩⟩⟩
theorem pc_dnotinX (hu : X.A.units + 1 < cLine) (hi : PE X i (T g E mi)) (ho : PE X o (T g E mo)) : PC X .NotIn i o (T g E (eOp (opDIn true) mi mo)) :=
  ⟨fun pins s σ H Q I ⟨L, σd, S, rp, sl, ev⟩ => (pc_dnotin hu hi ho).run pins s σ H Q I ⟨L, σd, S, rp, sl, ev.step fun dx S1 L1 H1 x1 r1 ev1 x n1 => ⟨L1, σd, S1, r1, sl.ext rp x1, ev1.step fun dy S2 L2 H2 x2 r2 ev2 y n2 => by
    unfold opDIn at ev2
    split at ev2
    · rename_i n kvs k e1 e2
      obtain ⟨a, ws, rfl, _, ha, kd⟩ := dctAt_ok r2 n2 e1
      refine ⟨a, _, rfl, .inl ⟨ws, k, .inl ha, keyD_ok (n1.ext r1 x2) e2, rfl⟩, ?_⟩
      rw [din_some kd]
      exact fin_val r2 ev2 (by cases (valD kvs k).isSome <;> exact .pd (.bl _))
    · exact ev2.elim⟩⟩⟩
/-- d[k] = e -/
def sDPutD (o i m : DM D) : DM Fl := fun σ S => (m σ S).bind fun d S1 => (o σ S1).bind fun x S2 => (i σ S2).bind fun y S3 => match dctAt S3 x, keyD y with
  | some (n, kvs), some k => if kvs.length < sizeLine then .ok (.next σ) (S3.set n (.dct (putD kvs k d))) else .stuck
  | _, _ => .stuck
theorem qs_dput (hu : X.A.units + 1 < cLine) (ho : PE X o (T g E mo)) (hi : PE X i (T g E mi)) (hv : PE X value (T g E mv)) (hs : swapsWith value (some (.Subscript o i pos')) pos.line X.env = pure false := by rfl) :
    PS X (.Assign [.Subscript o i pos'] value pos) (TSt g E (sDPutD mo mi mv)) :=
  PS.imp (ps_dput hu ho hi hv hs) fun D σ H ⟨L, σd, S, rp, sl, ev⟩ => ⟨L, σd, S, rp, sl, (Ev.bind ev).imp fun d S1 L1 H1 x1 r1 ev1 v dn =>
    ⟨L1, σd, S1, r1, sl.ext rp x1, (Ev.bind ev1).imp fun o S2 L2 H2 x2 r2 ev2 ov no => ⟨L2, σd, S2, r2, (sl.ext rp x1).ext r1 x2, (Ev.bind ev2).imp fun i S3 L3 H3 x3 r3 ev3 iv ni => by
      have sl3 := ((sl.ext rp x1).ext r1 x2).ext r2 x3
      have no3 := no.ext r2 x3
      have dn3 := (dn.ext r1 x2).ext r2 x3
      split at ev3
      · rename_i n kvs k e1 e2
        split at ev3
        · rename_i hz
          obtain ⟨a, ws, rfl, hn, ha, kd⟩ := dctAt_ok r3 no3 e1
          have xw : Ext g L3 H3 L3 (upd H3 a (.dK (putK ws k v))) := Ext.write hn
          refine ⟨a, _, rfl, .inl ⟨ws, k, ha, keyD_ok ni e2, by rw [← Paired.len kd]; exact hz, rfl⟩, ?_⟩
          exact ev3 L3 _ xw (r3.write hn ⟨fun _ => by simp, fun _ _ => by simp⟩ (.dct upd_same (putD_ok (dn3.ext r3 xw) (kd.ext r3 xw)))) σ (sl3.ext r3 xw)
        · exact ev3.elim
      · exact ev3.elim⟩⟩⟩
/-- d.get(k) -/
def eDGet1 (mo mi : DM D) : DM D := mBind mo fun x => fun σ S => if (dctAt S x).isSome = true then mBind mi (fun y => fun _ S2 => match dctAt S2 x, keyD y with
  | some (_, kvs), some k => .ok ((valD kvs k).getD .non) S2
  | _, _ => .stuck) σ S else .stuck
theorem px_dget1 {apos cpos : Pos} (hu : X.A.units + 1 < cLine) (ho : PE X o (T g E mo)) (he : PE X e (T g E mi)) (m : M1 X o "get" apos e cpos) : PE X (.Call (.Attribute o "get" apos) [e] [] cpos) (T g E (eDGet1 mo mi)) :=
  PE.imp (pe_dget1 hu ho he m) fun σ H Q ⟨L, σd, S, rp, sl, ev⟩ => ⟨L, σd, S, rp, sl, ev.step fun dx S1 L1 H1 x1 r1 ev1 x n1 => by
    split at ev1
    · rename_i hs
      cases e1 : dctAt S1 dx with
      | none => rw [e1] at hs; cases hs
      | some q =>
        obtain ⟨n, kvs⟩ := q
        obtain ⟨a, ws, rfl, hn, ha, kd⟩ := dctAt_ok r1 n1 e1
        refine ⟨a, rfl, .inl ⟨ws, .inl ha⟩, L1, σd, S1, r1, sl.ext rp x1, ev1.step fun dy S2 L2 H2 x2 r2 ev2 y n2 => ?_⟩
        split at ev2
        · rename_i n' kvs' k e2 e3
          obtain ⟨a', ws', ea, _, ha', kd'⟩ := dctAt_ok r2 (n1.ext r1 x2) e2
          cases ea
          refine ⟨_, .inl ⟨ws', k, .inl ha', keyD_ok n2 e3, rfl⟩, ?_⟩
          cases ev : valD kvs' k with
          | none => rw [ev] at ev2; rw [(valD_ok kd').2 ev]; exact fin_val r2 ev2 (.pd .non)
          | some d =>
            rw [ev] at ev2
            obtain ⟨w, ew, dw⟩ := (valD_ok kd').1 d ev
            rw [ew]
            exact fin_val r2 ev2 dw
        · exact ev2.elim
    · exact ev1.elim⟩

/-! ### dict comprehensions -/
noncomputable def dcGo (gu : Gu) (t : TgD) (tt : DM Bool) (tk tv : DM D) : List D → List (Key × D) → Sl → Sto → Out (List (Key × D))
  | [], acc, _, S => if gu.ok S then .ok acc S else .stuck
  | d :: r, acc, σ, S => if gu.ok S then (match t d σ with
    | some σ1 => (tt σ1 S).bindN fun b S1 => if b = true then (tk σ1 S1).bindN fun y S2 => (tv σ1 S2).bindN fun z S3 => (match keyD y with
        | some k => if acc.length < sizeLine then dcGo gu t tt tk tv r (putD acc k z) σ S3 else .stuck
        | none => .stuck) else dcGo gu t tt tk tv r acc σ S1
    | none => .stuck) else .stuck
noncomputable def dcAll (vs : List Nat) (w : DM Wk) (t : TgD) (tt : DM Bool) (tk tv : DM D) : DM (List (Key × D)) := fun σ S => (w σ S).bind fun wk S' => match dcGo wk.gu t tt tk tv wk.items [] (clr vs σ) S' with
  | .ok kvs S2 => .ok kvs S2
  | _ => .stuck
def mkDct : List (Key × D) → DM D := fun kvs _ S => .ok (.ref S.length) (S ++ [.dct kvs])
noncomputable def eDc (vs : List Nat) (w : DM Wk) (t : TgD) (tt : DM Bool) (tk tv : DM D) : DM D := mBind (dcAll vs w t tt tk tv) mkDct
variable {tg iter kx vx : Expr} {ifs : List Expr} {scope : Scope} {own : List (Str × Nat)} {mw : DM Wk} {gt : TG} {t : TgD} {mt : DM Bool} {mk mx : DM D} {tt : TT} {tk tv : TE}
theorem KvDen.updO {A : Addr} {o' : HO} (r : RepS (g.blk A) L S H) {kvs : List (Key × D)} {ws : List (Key × V)} (h : KvDen (g.blk A) L H kvs ws) : KvDen (g.blk A) L (upd H A o') kvs ws := Paired.imp h fun _ _ q => ⟨q.1, Den.updO r q.2⟩
theorem dc_reads {N : List Str} (hg : TgR g.K N (own.map (·.2)) gt t)
    (htt : ∀ (g' : G), g'.K = g.K → g'.mg = g.mg → ∀ σ H Q, TB g' EN mt σ H Q → tt σ H Q) (htk : ∀ (g' : G), g'.K = g.K → g'.mg = g.mg → ∀ σ H Q, T g' EN mk σ H Q → tk σ H Q) (htv : ∀ (g' : G), g'.K = g.K → g'.mg = g.mg → ∀ σ H Q, T g' EN mx σ H Q → tv σ H Q)
    {wi : TI} (hwi : ∀ σ H R, TW g E mw σ H R → wi σ H R) {Q : VK}
    (h : T g E (eDc (own.map (·.2)) mw t mt mk mx) σ H Q) (hNl : σ.length = N.length) : tDc wi gt tt tk tv (own.map (·.2)) σ H Q := by
  have haw := h.asW
  obtain ⟨L, σd, S, rp, sl, ev⟩ := h
  generalize hvs : own.map (·.2) = vs at *
  refine hwi σ H _ ⟨L, σd, S, rp, sl, ?_⟩
  have ev' : Ev g E L H ((mw σd S).bind fun wk S' => (match dcGo wk.gu t mt mk mx wk.items [] (clr vs σd) S' with
      | .ok kvs S2 => mkDct kvs σd S2
      | _ => .stuck)) (PV g Q) := by
    have e : ((mw σd S).bind fun wk S' => (match dcGo wk.gu t mt mk mx wk.items [] (clr vs σd) S' with
      | .ok kvs S2 => mkDct kvs σd S2
      | _ => .stuck)) = eDc vs mw t mt mk mx σd S := by
      unfold eDc mBind dcAll
      cases mw σd S with
      | ok wk S' =>
        simp only [Out.bind_ok]
        cases dcGo wk.gu t mt mk mx wk.items [] (clr vs σd) S' <;> rfl
      | exc e σ2 S2 => rfl
      | stuck => rfl
    rw [e]; exact ev
  refine (Ev.bind ev').imp fun wk S1 L1 H1 x1 r1 ev1 J hJ A hA => ?_
  cases elc : dcGo wk.gu t mt mk mx wk.items [] (clr vs σd) S1 with
  | exc e σ2 S2 => rw [elc] at ev1; exact ev1.elim
  | stuck => rw [elc] at ev1; exact ev1.elim
  | ok dsF SF =>
    rw [elc] at ev1
    have evF : Ev g E L1 H1 (mkDct dsF σd SF) (PV g Q) := ev1
    have hAL1 : A ∉ L1 := fun h => r1.free hA (.inr h)
    have sl1 := sl.ext rp x1
    have gx := blk_gx (g := g) hA
    refine ⟨fun i m H => ∃ L S ds ws, m = wk.items.length - i ∧ i ≤ wk.items.length ∧ Ext g L1 H1 L H ∧ A ∉ L ∧ RepS (g.blk A) L S H ∧ H A = some (.dK ws) ∧ KvDen (g.blk A) L H ds ws ∧ dcGo wk.gu t mt mk mx (wk.items.drop i) ds (clr vs σd) S = .ok dsF SF,
      ⟨_, L1, S1, [], [], rfl, Nat.zero_le _, Ext.new1 hA, hAL1, blk_inO (nt_dK _) r1 hA, upd_same, .nil, by simpa using elc⟩, ?_⟩
    rintro i m H2 ⟨L2, S2, ds, ws, rfl, hi, x2, hAL, r2, eA, dn, el⟩
    cases hd : wk.items.drop i with
    | nil =>
      rw [hd] at el
      unfold dcGo at el
      split at el
      · rename_i gu
        cases el
        have hi2 : i = wk.items.length := by
          have := congrArg List.length hd
          simp at this
          omega
        subst hi2
        refine .inl ⟨(hJ _ L2 _ H2 gx x2 r2 gu).2, ?_⟩
        unfold mkDct at evF
        have hL : SF.length = L2.length := Paired.len r2.obs
        refine evF (L2 ++ [A]) H2 ⟨x2.pre.trans (List.prefix_append _ _), fun a h na => ?_, x2.keep, x2.there⟩ (blk_adoptO r2 haw (.dct eA dn) hAL (fun w => r1.free hA (.inl w)) (r1h0 r1 hA)) (.ref A) (.ref (by rw [hL]; simp))
        rcases List.mem_append.mp h with h | h
        · exact x2.new a h na
        · have : a = A := by simpa using h
          rw [this]; exact hA
      · cases el
    | cons d r =>
      rw [hd] at el
      unfold dcGo at el
      split at el
      · rename_i gu
        have hi2 : i < wk.items.length := by
          have := congrArg List.length hd
          simp at this
          omega
        have ed : wk.items[i]? = some d := by
          have := congrArg (fun l => l[0]?) hd
          simpa [List.getElem?_drop] using this
        have hr : wk.items.drop (i + 1) = r := by
          have := congrArg (List.drop 1) hd
          simpa [List.drop_drop, Nat.add_comm] using this
        obtain ⟨go, yl⟩ := (hJ _ L2 _ H2 gx x2 r2 gu).1 i d ed
        split at el
        · rename_i σ1 e1
          obtain ⟨k, S3, em, el⟩ := bindN_ok el
          refine .inr ⟨go, fun H => ∃ L S ds ws, Ext g L1 H1 L H ∧ A ∉ L ∧ RepS (g.blk A) L S H ∧ H A = some (.dK ws) ∧ KvDen (g.blk A) L H ds ws ∧ dcGo wk.gu t mt mk mx (wk.items.drop (i + 1)) ds (clr vs σd) S = .ok dsF SF,
            fun H' ⟨L, S, ds, ws, h1, h2, h3, h4, h5, h6⟩ => ⟨wk.items.length - (i + 1), by omega, L, S, ds, ws, rfl, hi2, h1, h2, h3, h4, h5, h6⟩, fun x H3 hx => ?_⟩
          obtain ⟨x3, r3, dx⟩ := yl x H3 hx
          have eA3 := x3.keep A _ eA hAL
          have slw : SlDen (g.blk A) L2 H3 (clr vs σd) (wipe σ vs) := fun j e ej => by
            obtain ⟨e1, hj⟩ := clr_some ej
            obtain ⟨w, ew, dw⟩ := sl1 j e e1
            exact ⟨w, by rw [wipe_out hj]; exact ew, dw.gx r1 gx (x2.trans x3)⟩
          refine hg (g.blk A) L2 S2 H3 x d _ σ1 _ _ rfl r3 slw (by rw [wipe_length]; exact hNl) dx e1 fun σ' sl' hl' out => ?_
          refine ⟨wipe_eq (hl'.trans (wipe_length _ _)) fun j hj => by rw [out j hj, wipe_out hj], ?_⟩
          refine htt (g.blk A) rfl rfl σ' H3 _ ⟨L2, σ1, S2, r3, sl', ?_⟩
          rw [em]
          intro L4 H4 x4 r4
          have hAL4 : A ∉ L4 := fun h => by
            have := x4.new A h hAL
            rw [eA3] at this; cases this
          have eA4 := x4.keep A _ eA3 hAL
          have dn4 : KvDen (g.blk A) L4 H4 ds ws := KvDen.ext r3 x4 (KvDen.ext r2 x3.any dn)
          show if k = true then _ else _
          split at el
          · rename_i hk
            obtain ⟨y, S5, ee, el⟩ := bindN_ok el
            obtain ⟨z, S6, ee2, el⟩ := bindN_ok el
            split at el
            · rename_i ky eky
              split at el
              · rename_i hz
                rw [if_pos hk]
                refine htk (g.blk A) rfl rfl σ' H4 _ ⟨L4, σ1, S3, r4, sl'.ext r3 x4, ?_⟩
                rw [ee]
                intro L5 H5 x5 r5 w dw
                have hAL5 : A ∉ L5 := fun h => by
                  have := x5.new A h hAL4
                  rw [eA4] at this; cases this
                have eA5 := x5.keep A _ eA4 hAL4
                have dn5 : KvDen (g.blk A) L5 H5 ds ws := KvDen.ext r4 x5 dn4
                refine htv (g.blk A) rfl rfl σ' H5 _ ⟨L5, σ1, S5, r5, (sl'.ext r3 x4).ext r4 x5, ?_⟩
                rw [ee2]
                intro L6 H6 x6 r6 w6 dw6
                have hAL6 : A ∉ L6 := fun h => by
                  have := x6.new A h hAL5
                  rw [eA5] at this; cases this
                have eA6 := x6.keep A _ eA5 hAL5
                have dn6 : KvDen (g.blk A) L6 H6 ds ws := KvDen.ext r5 x6 dn5
                refine ⟨ws, ky, keyD_ok dw eky, eA6, by rw [← Paired.len dn6]; exact hz, L6, S6, putD ds ky z, putK ws ky w6, ?_, hAL6, r6.updO (nt_dK _) hAL6 (r1h0 r1 hA), upd_same, KvDen.updO r6 (putD_ok dw6 dn6), by rw [hr]; exact el⟩
                exact Ext.upd1 hAL6 eA6 ((((x2.trans x3).trans x4.any).trans x5.any).trans x6.any) hA
              · cases el
            · cases el
          · rename_i hk
            rw [if_neg hk]
            exact ⟨L4, S3, ds, ws, (x2.trans x3).trans x4.any, hAL4, r4, eA4, dn4, by rw [hr]; exact el⟩
        · cases el
      · cases el
/-- {k: v for t in it if ..} -/
theorem px_dc (hK : X.K = g.K) (hmg : X.mg = g.mg) (hc : X.calm = true) (hN : X.N.Nodup) (hi : PI X tg iter (TW g E mw)) (ok : BlkOk X.N X.env.scope scope own)
    (hg : ∀ (s : Shared) (H : Hp) (C : Addr) (cl : List (Str × Addr)) (fp : List Addr), PG (X.blk s H scope (compEnvC scope cl C X.env) fp) tg gt) (tr : TgR X.K X.N (own.map (·.2)) gt t)
    (ht : ∀ (s : Shared) (H : Hp) (C : Addr) (cl : List (Str × Addr)) (fp : List Addr) (g' : G), X.K = g'.K → X.mg = g'.mg → PTs (X.blk s H scope (compEnvC scope cl C X.env) fp) ifs (TB g' EN mt))
    (hk : ∀ (s : Shared) (H : Hp) (C : Addr) (cl : List (Str × Addr)) (fp : List Addr) (g' : G), X.K = g'.K → X.mg = g'.mg → PE (X.blk s H scope (compEnvC scope cl C X.env) fp) kx (T g' EN mk))
    (he : ∀ (s : Shared) (H : Hp) (C : Addr) (cl : List (Str × Addr)) (fp : List Addr) (g' : G), X.K = g'.K → X.mg = g'.mg → PE (X.blk s H scope (compEnvC scope cl C X.env) fp) vx (T g' EN mx)) (hs : ∀ x, foldedSetIterable iter X.env x = pure x := by intro _; rfl) :
    PE X (.DictComp kx vx [⟨tg, iter, ifs, 0⟩] scope pos) (T g E (eDc (own.map (·.2)) mw t mt mk mx)) :=
  PE.imp (PE.len (pe_dc hc hN hi ok hg (fun s H C cl fp => PTs.ex (K := g.K) (mg := g.mg) fun g' e1 e2 => ht s H C cl fp g' (hK.trans e1.symm) (hmg.trans e2.symm)) (fun s H C cl fp => PE.ex (K := g.K) (mg := g.mg) fun g' e1 e2 => hk s H C cl fp g' (hK.trans e1.symm) (hmg.trans e2.symm))
    (fun s H C cl fp => PE.ex (K := g.K) (mg := g.mg) fun g' e1 e2 => he s H C cl fp g' (hK.trans e1.symm) (hmg.trans e2.symm)) hs)) fun σ H Q h hl =>
    dc_reads (N := X.N) (by rw [← hK]; exact tr) (fun g' e1 e2 σ H Q q => ⟨g', e1, e2, q⟩) (fun g' e1 e2 σ H Q q => ⟨g', e1, e2, q⟩) (fun g' e1 e2 σ H Q q => ⟨g', e1, e2, q⟩) (fun _ _ _ q => q) h hl
end
end DL
end
section
namespace DL
open PySem PySem.Spec PyProof.Rows L2
/-! ### tuple * int, any int -/
theorem tuple_mul_same (l : Addr) (items : Array Value) (n : Nat) (x : Int) (u : Tok) (c0 : (decide (x < -(2 ^ 63)) || decide (x ≥ 2 ^ 63)) = false) (c1 : (items.isEmpty || x == 1) = true) :
    Meets (Builtin.«tuple.__mul__» ⟨[.ref l, .int x u], []⟩) (fun _ R s => (∃ o, s.heap.get? l = some o ∧ o.cls = .type "tuple" ∧ o.data = .seq items n) ∧
      R (.ok (.ret (Value.ref l))) s) :=
  .of_wp fun prog w A R s h => by
    obtain ⟨hp, g, d, tk, os⟩ := s
    obtain ⟨⟨⟨cls, dd, data, sl⟩, hl, hc, hd⟩, h⟩ := h
    simp only at hc hd
    subst hc hd
    have f1 := AutoSeq1.idx_int
    wp_walk using wpAny_loadPart' hl
    repeat (first
      | (refine wpAny_ite_false (decide_eq_false (by rw [c0]; exact Bool.false_ne_true)) ?_; wp_walk using wpAny_loadPart' hl)
      | (refine wpAny_ite_true (decide_eq_true (by rw [c1])) ?_; wp_walk using wpAny_loadPart' hl))
    exact ⟨_, rfl, h⟩
theorem tuple_mul_none (l : Addr) (items : Array Value) (n : Nat) (x : Int) (u : Tok) (c0 : (decide (x < -(2 ^ 63)) || decide (x ≥ 2 ^ 63)) = false) (c1 : (items.isEmpty || x == 1) = false) (c2 : (decide (x ≤ 0) || items.isEmpty) = true) :
    Meets (Builtin.«tuple.__mul__» ⟨[.ref l, .int x u], []⟩) (fun _ R s => (∃ o, s.heap.get? l = some o ∧ o.cls = .type "tuple" ∧ o.data = .seq items n) ∧
      R (.ok (.ret (Value.ref s.heap.objs.size))) { s with heap := s.heap.push { cls := Value.type "tuple", data := Data.seq #[] } }) :=
  .of_wp fun prog w A R s h => by
    obtain ⟨hp, g, d, tk, os⟩ := s
    obtain ⟨⟨⟨cls, dd, data, sl⟩, hl, hc, hd⟩, h⟩ := h
    simp only at hc hd
    subst hc hd
    have f1 := AutoSeq1.idx_int
    wp_walk using wpAny_loadPart' hl
    repeat (first
      | (refine wpAny_ite_false (decide_eq_false (by rw [c0]; exact Bool.false_ne_true)) ?_; wp_walk using wpAny_loadPart' hl)
      | (refine wpAny_ite_false (decide_eq_false (by rw [c1]; exact Bool.false_ne_true)) ?_; wp_walk using wpAny_loadPart' hl)
      | (refine wpAny_ite_true (decide_eq_true (by rw [c2])) ?_; wp_walk using wpAny_loadPart' hl))
    exact ⟨_, rfl, h⟩
section
variable {X : Cx}
def rRepT0 (K : PySem.W.Frag) : R2 := fun x y H Q => ∃ l k xs, x = .ref l ∧ y = .int k ∧ SqT K H l xs ∧ -(2 ^ 63) ≤ k ∧ k < 2 ^ 63 ∧ (((xs = [] ∨ k = 1) ∧ Q x H) ∨ (xs ≠ [] ∧ k ≤ 0 ∧ ∀ p, H p = none → Q (.ref p) (upd H p (.tup []))))
theorem op_repT0 : OpR X (binaryOp .Mult) (rRepT0 X.K) := by
  intro pins s σ H x y v u Q I rx ry h
  obtain ⟨l, k, xs, rfl, rfl, hT, h1, h2, q⟩ := h
  cases rx
  obtain ⟨t, rfl⟩ := ry
  obtain ⟨its, r, ⟨⟨cls, dd, data, sl⟩, ho, hc, n, hd⟩, hs⟩ := I.tuple hT
  simp only at hc hd
  subst hc hd
  have hle : its.length = xs.length := r.length.symm
  have c0 : (decide (k < -(2 ^ 63)) || decide (k ≥ 2 ^ 63)) = false := by
    rw [decide_eq_false (by omega), decide_eq_false (by omega)] <;> rfl
  rcases q with ⟨hc, q⟩ | ⟨hne, hk, q⟩
  · have c1 : (its.toArray.isEmpty || k == 1) = true := by
      rcases hc with rfl | rfl
      · cases r; rfl
      · simp
    exact wpAny_binaryOp_repeat_ref (T := "tuple") (U := "int") (by decide) ⟨_, ho, rfl⟩ (fun s' => typeIs_int s' k t) noFill_tuple_mul F.fills_int_mul F.slot_int_rmul repeat_tuple F.slot_int_index.lookup
      (call_meets F.slot_int_rmul (typeIs_int s k t) F.entry_int_rmul (F.args_int_rmul_2 _ _) (int_rmul_tuple k t l its.toArray n dd sl)
        ⟨ho, rfl, ⟨_, ho, rfl⟩, call_meets F.slot_tuple_mul ⟨_, ho, rfl⟩ F.entry_tuple_mul (F.args_tuple_mul_2 _ _) (tuple_mul_same l its.toArray n k t c0 c1) ⟨⟨_, ho, rfl, rfl⟩, .ref l, H, I, rfl, q⟩⟩)
  · have hi : its.toArray.isEmpty = false := by
      cases its with
      | nil => exact absurd (List.eq_nil_of_length_eq_zero hle.symm) hne
      | cons a b => rfl
    have c1 : (its.toArray.isEmpty || k == 1) = false := by
      rw [hi, Bool.false_or]
      exact beq_eq_false_iff_ne.mpr (by omega)
    have c2 : (decide (k ≤ 0) || its.toArray.isEmpty) = true := by
      rw [decide_eq_true hk]; rfl
    exact wpAny_binaryOp_repeat_ref (T := "tuple") (U := "int") (by decide) ⟨_, ho, rfl⟩ (fun s' => typeIs_int s' k t) noFill_tuple_mul F.fills_int_mul F.slot_int_rmul repeat_tuple F.slot_int_index.lookup
      (call_meets F.slot_int_rmul (typeIs_int s k t) F.entry_int_rmul (F.args_int_rmul_2 _ _) (int_rmul_tuple k t l its.toArray n dd sl)
        ⟨ho, rfl, ⟨_, ho, rfl⟩, call_meets F.slot_tuple_mul ⟨_, ho, rfl⟩ F.entry_tuple_mul (F.args_tuple_mul_2 _ _) (tuple_mul_none l its.toArray n k t c0 c1 c2) ⟨⟨_, ho, rfl, rfl⟩,
          .ref s.heap.objs.size, _, I.laid (t' := s.toks) (o := .tup []) (fun b ob q => Heap.get?_push_of_some _ q) (Nat.le_refl _) ⟨Nat.zero_le _, [], .nil, IsTup.new _ _⟩, rfl, q _ (I.hok.fresh (Nat.le_refl _))⟩⟩)
variable {g : G}
def opMul2 : D → D → Sto → Out D := fun x y S => match x, y with
  | .pd (.tuple xs), .pd (.int k) => if -(2 ^ 63) ≤ k ∧ k < 2 ^ 63 then (if xs = [] ∨ k = 1 then .ok (.tup xs) S else if k ≤ 0 then .ok (.tup []) S else opMul (.tup xs) (.int k) S) else .stuck
  | x, y => opMul x y S
theorem ox_mul2 (hk : X.K = g.K) : OpX X g (binaryOp .Mult) opMul2 := by
  intro E pins s σ H x y v u Q I rx ry h
  obtain ⟨L, S, dx, dy, r, nx, ny, ev⟩ := h
  unfold opMul2 at ev
  split at ev
  · rename_i xs k
    split at ev
    · rename_i hb
      split at ev
      · rename_i hc
        obtain ⟨a, vs, rfl, ha, za⟩ := den_tup nx
        have hcv : vs = [] ∨ k = 1 := hc.imp (fun e => List.length_eq_zero_iff.mp (by rw [za.len, e]; rfl)) id
        cases den_int ny
        rw [← hk] at ha
        exact op_repT0 pins s σ H _ _ v u Q I rx ry ⟨a, k, vs, rfl, rfl, ha, hb.1, hb.2, .inl ⟨hcv, fin_val r ev nx⟩⟩
      · rename_i hc
        split at ev
        · rename_i hk0
          obtain ⟨a, vs, rfl, ha, za⟩ := den_tup nx
          have hne : vs ≠ [] := fun e => hc (.inl (List.length_eq_zero_iff.mp (by rw [← za.len, e]; rfl)))
          cases den_int ny
          rw [← hk] at ha
          exact op_repT0 pins s σ H _ _ v u Q I rx ry ⟨a, k, vs, rfl, rfl, ha, hb.1, hb.2, .inr ⟨hne, hk0, fin_tup r ev .nil⟩⟩
        · exact ox_mul hk E pins s σ H x y v u Q I rx ry ⟨L, S, _, _, r, nx, ny, ev⟩
    · exact ev.elim
  · exact ox_mul hk E pins s σ H x y v u Q I rx ry ⟨L, S, _, _, r, nx, ny, ev⟩

/-! ### name op= e -/
def opAddI : D → D → Sto → Out D := fun x y S => match x, y with
  | .pd (.int i), .pd (.int j) => .ok (.int (i + j)) S
  | _, _ => .stuck
def opSubI : D → D → Sto → Out D := fun x y S => match x, y with
  | .pd (.int i), .pd (.int j) => .ok (.int (i - j)) S
  | _, _ => .stuck
def opMulI : D → D → Sto → Out D := fun x y S => match x, y with
  | .pd (.int i), .pd (.int j) => if i.natAbs < 2 ^ 64 ∨ j.natAbs < 2 ^ 64 then .ok (.int (i * j)) S else .stuck
  | _, _ => .stuck
theorem oi_add : OpX X g (inplaceOp .Add) opAddI := by
  intro E pins s σ H x y v u Q I rx ry h
  obtain ⟨L, S, dx, dy, r, nx, ny, ev⟩ := h
  unfold opAddI at ev
  split at ev
  · cases den_int nx; cases den_int ny
    exact iop_add pins s σ H _ _ v u Q I rx ry ⟨_, _, rfl, rfl, fin_val r ev (.pd (.int _))⟩
  · exact ev.elim
theorem oi_sub : OpX X g (inplaceOp .Sub) opSubI := by
  intro E pins s σ H x y v u Q I rx ry h
  obtain ⟨L, S, dx, dy, r, nx, ny, ev⟩ := h
  unfold opSubI at ev
  split at ev
  · cases den_int nx; cases den_int ny
    exact iop_sub pins s σ H _ _ v u Q I rx ry ⟨_, _, rfl, rfl, fin_val r ev (.pd (.int _))⟩
  · exact ev.elim
theorem oi_mul : OpX X g (inplaceOp .Mult) opMulI := by
  intro E pins s σ H x y v u Q I rx ry h
  obtain ⟨L, S, dx, dy, r, nx, ny, ev⟩ := h
  unfold opMulI at ev
  split at ev
  · split at ev
    · rename_i hz
      cases den_int nx; cases den_int ny
      exact iop_mul pins s σ H _ _ v u Q I rx ry ⟨_, _, rfl, rfl, hz.imp (fun h => by omega) (fun h => by omega), fin_val r ev (.pd (.int _))⟩
    · exact ev.elim
  · exact ev.elim
end
end DL
end
section
namespace DL
open PySem PySem.Spec PyProof.Rows L2
open PySem.W (AllAlike Sortable dataLe SortsAt EachIs)
open Classical

/-! ### sorted(list), sorted(tuple) -/
section
variable {prog : Program} {w : World} {A : Around} {E : Value → Shared → Prop} {s : Shared}
theorem collect_tup {l : Addr} {vs : List Value} {Q : List Value → Shared → Prop} (hl : IsTup s.heap l vs.toArray)
    (h : Q vs { s with heap := (s.heap.push (seqObj "list" #[] 0)).update s.heap.objs.size (Obj.mapSeq (· ++ vs.toArray)) }) (hsz : vs.length ≤ sizeLine) :
    wpAny (model prog w) A (collect (.ref l)) Q E s := by
  obtain ⟨o, ho, hc, n, hd⟩ := id hl
  unfold collect
  refine wpAny_bind (wpAny_runValue (codeAny_builtin entry_proto_collect' ?_))
  show wpAny _ _ (do again (.builtin "list.__iadd__" ⟨[← newList [], .ref l], []⟩)) _ _ s
  refine wpAny_bind (wpAny_newList (wpAny_pure ⟨Code.quiet_builtin _ (by decide +kernel), codeAny_builtin entry_list_iadd' ?_⟩))
  show wpAny _ _ (Builtin.List.listExtendWith (.ref s.heap.objs.size) (.ref l) (.ref s.heap.objs.size)) _ _ { s with heap := s.heap.push (seqObj "list" #[] 0) }
  unfold Builtin.List.listExtendWith
  have ho' : (s.heap.push (seqObj "list" #[] 0)).get? l = some o := Heap.get?_push_of_some _ ho
  refine wpAny_bind (wpAny_typeOf (T := "tuple") ⟨o, ho', hc⟩ ?_)
  have ht : (Value.type "tuple" == Value.type "tuple") = true := by rfl
  rw [if_pos (by rw [ht]; simp)]
  refine wpAny_bind (listItems_at ho' hd ?_)
  refine wpAny_bind (listItems_at (xs := #[]) (n := 0) (Heap.get?_push_size _ rfl) rfl ?_)
  rw [if_neg (by simp)]
  refine wpAny_bind (listUpdate_at (xs := #[]) (n := 0) (Heap.get?_push_size _ rfl) rfl ?_ (Nat.zero_le _) (by show (#[] ++ vs.toArray).size ≤ sizeLine + 1; simp only [Array.size_append, List.size_toArray, List.length_nil]; omega))
  refine wpAny_pure ?_
  show wpAny (model prog w) A (do
      let o ← load s.heap.objs.size
      match o.data with
      | .seq xs _ => pure xs.toList
      | _ => unsupported "internal:collect") Q E { s with heap := (s.heap.push (seqObj "list" #[] 0)).update s.heap.objs.size (Obj.mapSeq (· ++ vs.toArray)) }
  refine wpAny_bind (wpAny_load (get?_update_seq (Heap.get?_push_size _ rfl) _) ?_)
  show wpAny _ _ (pure ((#[] : Array Value) ++ vs.toArray).toList) Q E _
  rw [show ((#[] : Array Value) ++ vs.toArray).toList = vs by simp]
  exact wpAny_pure h
theorem sorted_tup_of_sort {l : Addr} {vs : List Value} {kw : List (Str × Value)} {Q : Value → Shared → Prop} (hl : IsTup s.heap l vs.toArray) (hL : vs.length ≤ sizeLine) (ha1 : argsOk "sorted" ⟨[.ref l], kw⟩) (ha2 : ∀ x, argsOk "list.sort" ⟨[.ref x], kw⟩)
    (body : ∀ E' : Value → Shared → Prop, wpAny (model prog w) A.in1.in1 (Builtin.«list.sort» ⟨[.ref (s.heap.objs.size + 1)], kw⟩) (fun f s' => f = .done (.ret .none) ∧ Q (.ref (s.heap.objs.size + 1)) s') E' { s with heap := PySem.W.copyHeap s.heap vs }) :
    wpAny (model prog w) A (call (.builtin "sorted") [.ref l] kw) Q E s := by
  refine call_function_entry_kw kind_sorted plain_sorted entry_sorted ha1 ?_
  unfold Builtin.«sorted»
  refine wpAny_bind (m := checkCount "sorted" 1 1 _) (wpAny_pure ?_)
  refine wpAny_bind (collect_tup hl ?_ hL)
  refine wpAny_bind (wpAny_newList ?_ hL)
  have hsz : ((s.heap.push (seqObj "list" #[] 0)).update s.heap.objs.size (Obj.mapSeq (· ++ vs.toArray))).objs.size = s.heap.objs.size + 1 := by
    rw [Heap.size_update, size_push']
  show wpAny _ _ _ _ _ { s with heap := PySem.W.copyHeap s.heap vs }
  rw [hsz]
  refine wpAny_bind (wpAny_holding (wpAny_call_entry_kw slot_list_sort ⟨_, PySem.W.copyHeap_at s.heap vs, rfl⟩ entry_list_sort ?body (ha2 _)))
  case body =>
    show wpAny (model prog w) A.in1.in1 (Builtin.«list.sort» ⟨[.ref (s.heap.objs.size + 1)], kw⟩) _ _ _
    refine wpAny_mono (body _) (fun f s' hf => ?_) fun _ _ e => e
    obtain ⟨rfl, hq⟩ := hf
    exact ⟨_, rfl, wpAny_pure ⟨_, rfl, hq⟩⟩
variable {β : Type} {vs : List Value} {bs : List β} {enc : β → PyData} {R : Value → β → Prop}
theorem sorted_tup_data {l : Addr} {Q : Value → Shared → Prop} (hl : IsTup s.heap l vs.toArray) (e : EachIs R vs bs) (er : EachIs (fun v b => ∃ as, Reads s.heap v (enc b) as) vs bs) (hal : AllAlike (bs.map enc)) (hk : Sortable (bs.map enc)) (hL : bs.length ≤ sizeLine)
    (hu : ∀ b, b ∈ bs → A.units + 2 + (enc b).depth < cLine) (h : ∀ out, out.length = bs.length → EachIs R out (bs.mergeSort (dataLe false enc)) → Q (.ref (s.heap.objs.size + 1)) { s with heap := sortedAll s.heap vs (List.toArray out) }) :
    wpAny (model prog w) A (call (.builtin "sorted") [.ref l]) Q E s := by
  have er' : EachIs (fun v b => ∃ as, Reads (PySem.W.sortingHeap (PySem.W.copyHeap s.heap vs) (s.heap.objs.size + 1) vs) v (enc b) as) vs bs := er.mono fun _ _ ⟨as, r⟩ => ⟨as, PyProof.Rows.Reads.keeps (fun _ _ => PySem.W.sorting_copy_old) r⟩
  have S : SortsAt prog w A.in1.in1 { s with heap := PySem.W.sortingHeap (PySem.W.copyHeap s.heap vs) (s.heap.objs.size + 1) vs } _ vs := SortsAt.data (s := { s with heap := PySem.W.sortingHeap (PySem.W.copyHeap s.heap vs) (s.heap.objs.size + 1) vs }) (PySem.W.each_map (R := fun v d => ∃ as, Reads (PySem.W.sortingHeap (PySem.W.copyHeap s.heap vs) (s.heap.objs.size + 1) vs) v d as) enc er') hal hk (PySem.W.bound_map hu)
  have hL' : vs.length ≤ sizeLine := by rw [e.length]; exact hL
  exact sorted_tup_of_sort hl hL' (args_sorted1 _) (fun _ => args_list_sort _) fun _ => PySem.W.list_sort_vals (s := { s with heap := PySem.W.copyHeap s.heap vs }) (PySem.W.copyHeap_at s.heap vs) S hL'
    ⟨rfl, h _ (by rw [PySem.W.sortVals_length false rfl]; exact e.length) (PySem.W.sortVals_data false e er' hal)⟩
end
section
variable {X : Cx}
abbrev sortLe : V × PyData → V × PyData → Bool := dataLe false (fun p : V × PyData => p.2)
theorem eachZip {h : Heap} {P : V → Value → PyData → Prop} : ∀ {xs : List V} {us : List Value} {ds : List PyData}, Vals xs us → (xs.length = ds.length) → (∀ v u d, (v, d) ∈ xs.zip ds → RelV v u → P v u d) → EachIs (fun u b => P b.1 u b.2) us (xs.zip ds)
  | [], _, [], .nil, _, _ => .nil
  | x :: xs, _, d :: ds, .cons r t, hl, f => .cons (f x _ d List.mem_cons_self r) (eachZip (h := h) t (by simpa using hl) fun v u d hm => f v u d (List.mem_cons_of_mem _ hm))
theorem eachVals {bs : List (V × PyData)} : ∀ {us : List Value}, EachIs (fun u (b : V × PyData) => RelV b.1 u) us bs → Vals (bs.map (·.1)) us := by
  intro us h
  induction h with
  | nil => exact .nil
  | cons h t ih => exact .cons h ih
theorem zip_dp {K : PySem.W.Frag} {H : Hp} : ∀ {xs : List V} {ds : List PyData}, DpAll K H xs ds → ∀ v d, (v, d) ∈ xs.zip ds → Dp K H v d
  | _, _, .nil, v, d, h => by cases h
  | _, _, .cons h t, v, d, hm => by
    rcases List.mem_cons.mp hm with e | hm
    · cases e; exact h
    · exact zip_dp t v d hm
theorem dpAll_len {K : PySem.W.Frag} {H : Hp} : ∀ {xs : List V} {ds : List PyData}, DpAll K H xs ds → xs.length = ds.length
  | _, _, .nil => rfl
  | _, _, .cons h t => by rw [List.length_cons, List.length_cons, dpAll_len t]
def rSortedD (K : PySem.W.Frag) : List V → Hp → VK → Prop := fun vs H Q => ∃ (a : Addr) (xs : List V) (ds : List PyData), vs = [V.ref a] ∧ (SqL K H a xs ∨ SqT K H a xs) ∧ DpAll K H xs ds ∧ AllAlike ds ∧ Sortable ds ∧ (∀ d ∈ ds, d.depth ≤ 60) ∧
  ∀ p, H p = none → Q (.ref p) (upd H p (.lst (((xs.zip ds).mergeSort sortLe).map (·.1))))
theorem cr_sortedD (hu : X.A.units + 64 < cLine) : CallR X (.builtin "sorted") (rSortedD X.K) := by
  intro pins s σ H vs us Q I r h
  obtain ⟨a, xs, ds, rfl, hs, hd, hal, hk, hdp, q⟩ := h
  rw [Vals.ref1 r]
  have hlen := dpAll_len hd
  have hmap : (xs.zip ds).map (fun p => p.2) = ds := by rw [List.map_snd_zip]; omega
  have fin : ∀ (its : List Value), Vals xs its → xs.length ≤ sizeLine → ∀ out : List Value, EachIs (fun u (b : V × PyData) => RelV b.1 u) out ((xs.zip ds).mergeSort (dataLe false fun p => p.2)) →
      EP X pins σ Q (.ref (s.heap.objs.size + 1)) { s with heap := sortedAll s.heap its (List.toArray out) } := fun its rv hz out ho => by
    obtain ⟨ep, he'⟩ := PyProof.Rows.sortedAll_at s.heap its out.toArray
    refine ⟨.ref _, upd H (s.heap.objs.size + 1) (.lst (((xs.zip ds).mergeSort sortLe).map (·.1))), I.laid (t' := s.toks) (fun _ _ => PyProof.Rows.sortedAll_old) (Nat.le_succ _) ⟨?_, out, ep, eachVals ho, he'⟩, rfl, q _ (I.hok.fresh (Nat.le_succ _))⟩
    rw [List.length_map, (List.mergeSort_perm _ _).length_eq, List.length_zip]
    omega
  have hb : ∀ b, b ∈ xs.zip ds → X.A.units + 2 + b.2.depth < cLine := fun b hb => by
    have := hdp b.2 (List.of_mem_zip hb).2
    omega
  rcases hs with hs | hs
  · obtain ⟨its, rv, hl, hz⟩ := I.list hs
    exact PySem.W.sorted_data (β := V × PyData) (enc := fun p => p.2) (R := fun u b => RelV b.1 u) hl.isList (eachZip (h := s.heap) (P := fun v u d => RelV v u) rv hlen fun v u d _ h => h)
      (eachZip (h := s.heap) (P := fun v u d => ∃ as, Reads s.heap u d as) rv hlen fun v u d hm h => Dp.reads I d v u (zip_dp hd v d hm) h) (by rw [hmap]; exact hal) (by rw [hmap]; exact hk) (by rw [List.length_zip]; omega) hb fun out _ ho => fin its rv hz out ho
  · obtain ⟨its, rv, hl, hz⟩ := I.tuple hs
    exact sorted_tup_data (β := V × PyData) (enc := fun p => p.2) (R := fun u b => RelV b.1 u) hl (eachZip (h := s.heap) (P := fun v u d => RelV v u) rv hlen fun v u d _ h => h)
      (eachZip (h := s.heap) (P := fun v u d => ∃ as, Reads s.heap u d as) rv hlen fun v u d hm h => Dp.reads I d v u (zip_dp hd v d hm) h) (by rw [hmap]; exact hal) (by rw [hmap]; exact hk) (by rw [List.length_zip]; omega) hb fun out _ ho => fin its rv hz out ho
end
section
variable {X : Cx} {g : G} {E : WX} {L : List Addr} {H : Hp} {S : Sto} {d : D} {v : V}
def sortOk (zs : List PyData) : Prop := PyData.hasDictAll zs = false ∧ AllAlike zs ∧ Sortable zs ∧ ∀ d ∈ zs, d.depth ≤ 60
def sortD (zs : List PyData) : List PyData := zs.mergeSort (dataLe false id)
noncomputable def fSorted : LF := fun ds S => match ds with
  | [d] => match asQ S d with
    | some xs => match pdL xs with
      | some zs => if sortOk zs then .ok (.lst (sortD zs)) S else .stuck
      | none => .stuck
    | none => .stuck
  | _ => .stuck
theorem zip_dz {K : PySem.W.Frag} {W : Addr → Prop} {H : Hp} : ∀ {xs : List V} {ds : List PyData}, DzAll K W H xs ds → ∀ p, p ∈ xs.zip ds → Dz K W H p.1 p.2
  | _, _, .nil, p, h => by cases h
  | _, _, .cons h t, p, hm => by
    rcases List.mem_cons.mp hm with e | hm
    · cases e; exact h
    · exact zip_dz t p hm
theorem dz_of {K : PySem.W.Frag} {W : Addr → Prop} {H : Hp} : ∀ {bs : List (V × PyData)}, (∀ p ∈ bs, Dz K W H p.1 p.2) → DzAll K W H (bs.map (·.1)) (bs.map (·.2))
  | [], _ => .nil
  | b :: bs, h => .cons (h b List.mem_cons_self) (dz_of fun p hp => h p (List.mem_cons_of_mem _ hp))
theorem sort_dz {K : PySem.W.Frag} {W : Addr → Prop} {H : Hp} {xs : List V} {ds : List PyData} (h : DzAll K W H xs ds) : DzAll K W H (((xs.zip ds).mergeSort sortLe).map (·.1)) (sortD ds) := by
  have e : ((xs.zip ds).mergeSort sortLe).map (·.2) = sortD ds := by
    unfold sortD
    rw [show ((xs.zip ds).mergeSort sortLe).map (fun x => x.2) = ((xs.zip ds).map (fun x => x.2)).mergeSort (dataLe false id) from List.map_mergeSort fun a _ b _ => rfl]
    congr 1
    rw [List.map_snd_zip]
    rw [h.len]; exact Nat.le_refl _
  rw [← e]
  exact dz_of fun p hp => zip_dz h p ((List.mergeSort_perm _ _).mem_iff.mp hp)
theorem cx_sorted (hk : X.K = g.K) (hu : X.A.units + 64 < cLine) : CallX X g (.builtin "sorted") fSorted := by
  intro E pins s σ H xs us Q I r h
  obtain ⟨L, S, ds, rp, dn, ev⟩ := h
  unfold fSorted at ev
  split at ev
  · cases dn with
    | cons d1 d2 =>
      cases d2
      split at ev
      · rename_i ys ey
        split at ev
        · rename_i zs ez
          split at ev
          · rename_i hz
            obtain ⟨a, vs, rfl, rd, dz⟩ := asQ_ok rp d1 ey
            rw [← hk] at rd
            have z := dens_dz (pdL_eq ez ▸ dz)
            exact cr_sortedD hu pins s σ H _ us Q I r ⟨a, vs, zs, rfl, rd, by rw [hk]; exact z.dp hz.1, hz.2.1, hz.2.2.1, hz.2.2.2, fin_lst rp ev (sort_dz z)⟩
          · exact ev.elim
        · exact ev.elim
      · exact ev.elim
  · exact ev.elim
end
end DL
end
section
namespace DL
open PySem PySem.Spec PyProof.Rows L2
open Classical

/-! ### a, *rest = .. (the star last) -/
section
variable {prog : Program} {w : World} {A : Around} {E : Value → Shared → Prop} {s : Shared}
theorem star_list {l : Addr} {items : Array Value} {i : Nat} {Q : List Value → Shared → Prop} (hl : s.heap.IsList l items) (hh : A.handled = none) (hi : i ≤ items.size) (hz : items.size ≤ sizeLine)
    (h : ∀ (h' : Heap) tk, (∀ b o, s.heap.get? b = some o → h'.get? b = some o) → Q (items.toList.take i ++ [.ref h'.objs.size]) { s with heap := h'.push { cls := .type "list", data := .seq (items.toList.drop i).toArray }, toks := tk }) :
    wpAny (model prog w) A (unpackItems (.ref l) (i + 1) (some i)) Q E s := by
  have hlt : l ≠ s.heap.objs.size := by obtain ⟨o, ho, _⟩ := hl; exact Nat.ne_of_lt (Heap.lt_size ho)
  unfold unpackItems
  refine wpAny_bind ?_
  unfold notIterableAtAll
  refine wpAny_bind (wpAny_specialOf hl.typeIs slot_list_iter.lookup ?_)
  refine wpAny_pure ?_
  simp only [Bool.false_eq_true, if_false]
  refine wpAny_bind (wpAny_holding (wpAny_pyIter_list hl ?_))
  refine wpAny_bind (wpAny_holding (PySem.W.kun_draw hlt i 0 _ _ ⟨_, Heap.get?_push_size _ rfl, rfl, rfl⟩ (hl.push _) (by omega) fun h₁ hit₁ hs₁ => ?_))
  have hl₁ : h₁.IsList l items := (hl.push _).extBut hs₁.extBut hlt
  rw [Nat.zero_add] at hit₁
  have hit₁' := hit₁
  obtain ⟨oi, hoi, _⟩ := hit₁'
  have hl₁' := hl₁
  obtain ⟨ol, hol, _⟩ := hl₁'
  rw [List.drop_zero]
  have hfl : (items.toList.take i).length = i := by rw [List.length_take, Array.length_toList]; omega
  rw [if_neg (show ¬ ((items.toList.take i).length < i) by rw [hfl]; omega)]
  refine wpAny_bind (wpAny_holding (PySem.W.kun_collect (s := { s with heap := h₁ }) (T := "list_iterator") (.inr (.inr (.inl rfl))) (Walks.list (A := A.in1) hh s.heap.objs.size l hlt items) (fun j u st => st.1.typeIs) (k := i) hi ⟨hit₁, hl₁⟩ (Heap.lt_size hoi) (Heap.lt_size hol) (fun h₂ tk hk => ?_) hz))
  have hsub : i + 1 - 1 - i = 0 := by omega
  show wpAny _ _ (if (items.toList.drop i).length < i + 1 - 1 - i then _ else _) _ _ _
  rw [if_neg (by rw [hsub]; omega)]
  show wpAny _ _ (newList ((items.toList.drop i).take ((items.toList.drop i).length - (i + 1 - 1 - i))) >>= fun d => pure (items.toList.take i ++ [d] ++ (items.toList.drop i).drop ((items.toList.drop i).length - (i + 1 - 1 - i)))) _ _ _
  rw [hsub, Nat.sub_zero, List.take_length, List.drop_length]
  refine wpAny_bind (wpAny_newList (wpAny_pure ?_) (by rw [List.length_drop, Array.length_toList]; omega))
  rw [List.append_nil]
  exact h h₂ tk fun b o e => hk b o (Nat.ne_of_lt (Heap.lt_size e)) (hs₁.extBut b o (Nat.ne_of_lt (Heap.lt_size e)) (Heap.get?_push_of_some _ e))
theorem star_tup {l : Addr} {items : Array Value} {i : Nat} {Q : List Value → Shared → Prop} (hl : IsTup s.heap l items) (hh : A.handled = none) (hi : i ≤ items.size) (hz : items.size ≤ sizeLine)
    (h : ∀ (h' : Heap) tk, (∀ b o, s.heap.get? b = some o → h'.get? b = some o) → Q (items.toList.take i ++ [.ref h'.objs.size]) { s with heap := h'.push { cls := .type "list", data := .seq (items.toList.drop i).toArray }, toks := tk }) :
    wpAny (model prog w) A (unpackItems (.ref l) (i + 1) (some i)) Q E s := by
  have hlt : l ≠ s.heap.objs.size := by obtain ⟨o, ho, _⟩ := hl; exact Nat.ne_of_lt (Heap.lt_size ho)
  unfold unpackItems
  refine wpAny_bind ?_
  unfold notIterableAtAll
  refine wpAny_bind (wpAny_specialOf hl.typeIs slot_tuple_iter.lookup ?_)
  refine wpAny_pure ?_
  simp only [Bool.false_eq_true, if_false]
  refine wpAny_bind (wpAny_holding (iter_tuple hl ?_))
  refine wpAny_bind (wpAny_holding (draw_tuple hlt i 0 _ _ ⟨_, Heap.get?_push_size _ rfl, rfl, rfl⟩ (hl.push _) (by omega) fun h₁ hit₁ hs₁ => ?_))
  have hl₁ : IsTup h₁ l items := (hl.push _).extBut hs₁.extBut hlt
  rw [Nat.zero_add] at hit₁
  have hit₁' := hit₁
  obtain ⟨oi, hoi, _⟩ := hit₁'
  have hl₁' := hl₁
  obtain ⟨ol, hol, _⟩ := hl₁'
  rw [List.drop_zero]
  have hfl : (items.toList.take i).length = i := by rw [List.length_take, Array.length_toList]; omega
  rw [if_neg (show ¬ ((items.toList.take i).length < i) by rw [hfl]; omega)]
  refine wpAny_bind (wpAny_holding (PySem.W.kun_collect (s := { s with heap := h₁ }) (T := "tuple_iterator") (.inr (.inr (.inr rfl))) (Walks.tuple (A := A.in1) hh s.heap.objs.size l hlt items) (fun j u st => st.1.typeIs) (k := i) hi ⟨hit₁, hl₁⟩ (Heap.lt_size hoi) (Heap.lt_size hol) (fun h₂ tk hk => ?_) hz))
  have hsub : i + 1 - 1 - i = 0 := by omega
  show wpAny _ _ (if (items.toList.drop i).length < i + 1 - 1 - i then _ else _) _ _ _
  rw [if_neg (by rw [hsub]; omega)]
  show wpAny _ _ (newList ((items.toList.drop i).take ((items.toList.drop i).length - (i + 1 - 1 - i))) >>= fun d => pure (items.toList.take i ++ [d] ++ (items.toList.drop i).drop ((items.toList.drop i).length - (i + 1 - 1 - i)))) _ _ _
  rw [hsub, Nat.sub_zero, List.take_length, List.drop_length]
  refine wpAny_bind (wpAny_newList (wpAny_pure ?_) (by rw [List.length_drop, Array.length_toList]; omega))
  rw [List.append_nil]
  exact h h₂ tk fun b o e => hk b o (Nat.ne_of_lt (Heap.lt_size e)) (hs₁.extBut b o (Nat.ne_of_lt (Heap.lt_size e)) (Heap.get?_push_of_some _ e))
end
theorem Vals.takeL : ∀ {xs : List V} {us : List Value} (i : Nat), Vals xs us → Vals (xs.take i) (us.take i)
  | _, _, 0, _ => .nil
  | _, _, _ + 1, .nil => .nil
  | _, _, i + 1, .cons h t => .cons h (Vals.takeL i t)
theorem Vals.dropL : ∀ {xs : List V} {us : List Value} (i : Nat), Vals xs us → Vals (xs.drop i) (us.drop i)
  | _, _, 0, h => h
  | _, _, _ + 1, .nil => .nil
  | _, _, i + 1, .cons h t => Vals.dropL i t
def gStar (K : PySem.W.Frag) (i : Nat) (t : TGs) : TG := fun v σ H Q => ∃ a xs, v = .ref a ∧ (SqL K H a xs ∨ SqT K H a xs) ∧ i ≤ xs.length ∧ ∀ p, H p = none → t (xs.take i ++ [.ref p]) σ (upd H p (.lst (xs.drop i))) Q
section
variable {X : Cx} {es es' : List Expr} {k i : Nat} {t : TGs} {pos : Pos}
theorem PGs.same (h : PGs X es t) (e : (assignEach es' X.env).map (·.2) = (assignEach es X.env).map (·.2)) : PGs X es' t := ⟨fun p s σ H vs us Q I r q => by rw [e]; exact h.run p s σ H vs us Q I r q⟩
theorem pg_star (hc : X.calm = true) (h : PGs X es t) (hn : (assignEach es X.env).length = i + 1 := by rfl) (hst : (assignEach es X.env).findIdx? (·.1) = some i := by rfl) : PG X (.Tuple es k pos) (gStar X.K i t) := by
  refine ⟨fun pins s σ H v u Q I r hw => ?_⟩
  obtain ⟨a, xs, e1, hq, hl, hw⟩ := hw
  subst e1
  cases r
  rw [PyProof.Rows.assign_Tuple]
  refine wpAny_bind (wpAny_standAt ?_)
  unfold unpack
  rw [hn, hst]
  have fin : ∀ its : List Value, Vals xs its → xs.length ≤ sizeLine → ∀ (h' : Heap) tk, (∀ b o, s.heap.get? b = some o → h'.get? b = some o) →
      wpAny (model X.prog X.w) X.A (assignInOrder ((assignEach es X.env).map (·.2)) (its.take i ++ [.ref h'.objs.size])) (fun _ s2 => ∃ σ' H', Inv X pins σ' H' s2 ∧ Q σ' H') X.xe { s with heap := h'.push { cls := .type "list", data := .seq (its.drop i).toArray }, toks := tk } := fun its rv hz h' tk k => by
    have I1 : Inv X pins σ H { s with heap := h', toks := tk } := I.kept k
    have I2 : Inv X pins σ (upd H h'.objs.size (.lst (xs.drop i))) { s with heap := h'.push { cls := .type "list", data := .seq (its.drop i).toArray }, toks := tk } :=
      L2.Inv.lnew (s := { s with heap := h', toks := tk }) I1 (Vals.dropL i rv) (by rw [List.length_drop]; omega)
    exact h.run pins _ σ _ _ _ Q I2 (L2.Vals.append (Vals.takeL i rv) (.cons (show RelV (V.ref h'.objs.size) (Value.ref h'.objs.size) from rfl) .nil)) (hw _ (I1.hok.fresh (Nat.le_refl _)))
  rcases hq with hq | hq
  · obtain ⟨its, rv, pl, hz⟩ := I.list hq
    have hlen := rv.length
    exact wpAny_bind (wpAny_holding (star_list pl.isList (I.ok.hd hc) (by simp only [List.size_toArray]; omega) (by simp only [List.size_toArray]; omega) fun h' tk k => by simpa using fin its rv hz h' tk k))
  · obtain ⟨its, rv, pl, hz⟩ := I.tuple hq
    have hlen := rv.length
    exact wpAny_bind (wpAny_holding (star_tup pl (I.ok.hd hc) (by simp only [List.size_toArray]; omega) (by simp only [List.size_toArray]; omega) fun h' tk k => by simpa using fin its rv hz h' tk k))
variable {g : G} {E : WX} {u : TgsD} {e tg : Expr} {me : DM D}
/-- the rest a list of the store; a list that stays -/
def sStarM (i : Nat) (u : TgsD) (m : DM D) : DM Fl := fun σ S => (m σ S).bind fun d S' => match asQ S' d with
  | some xs => if i ≤ xs.length then (match u (xs.take i ++ [.ref S'.length]) σ with
    | some σ' => .ok (.next σ') (S' ++ [.lst (xs.drop i)])
    | none => .stuck) else .stuck
  | none => .stuck
def sStarF (i : Nat) (u : TgsD) (m : DM D) : DM Fl := fun σ S => (m σ S).bind fun d S' => match asQ S' d with
  | some xs => match pdL (xs.drop i) with
    | some zs => if i ≤ xs.length then (match u (xs.take i ++ [.lst zs]) σ with
      | some σ' => .ok (.next σ') S'
      | none => .stuck) else .stuck
    | none => .stuck
  | none => .stuck
theorem Paired.dropR {α β : Type} {F : α → β → Prop} : ∀ {l : List α} {l' : List β} (n : Nat), Paired F l l' → Paired F (l.drop n) (l'.drop n)
  | _, _, 0, h => h
  | _, _, _ + 1, .nil => .nil
  | _, _, n + 1, .cons r t => Paired.dropR n t
theorem qs_starM (hk : X.K = g.K) (hc : X.calm = true) (he : PE X e (T g E me)) (hg : PGs X es (GTs g u)) (hm : (assignEach es' X.env).map (·.2) = (assignEach es X.env).map (·.2) := by rfl)
    (hn : (assignEach es' X.env).length = i + 1 := by rfl) (hst : (assignEach es' X.env).findIdx? (·.1) = some i := by rfl) {tpos : Pos} (hs : swapsWithSole [.Tuple es' k tpos] e pos.line X.env = pure false := by rfl) (hw : swappedStores [.Tuple es' k tpos] e X.env = pure none := by rfl)
    (h1 : (assignEach [.Tuple es' k tpos] X.env).map (·.2) = [assign (.Tuple es' k tpos) X.env] := by rfl) : PS X (.Assign [.Tuple es' k tpos] e pos) (TSt g E (sStarM i u me)) :=
  PS.imp (ps_asg he (pg_star hc (PGs.same hg hm) hn hst) hs hw h1) fun D σ H ⟨L, σd, S, rp, sl, ev⟩ => ⟨L, σd, S, rp, sl, (Ev.bind ev).imp fun d S1 L1 H1 x1 r1 ev1 v dn => by
    split at ev1
    · rename_i xs ex
      split at ev1
      · rename_i hi
        split at ev1
        · rename_i σ' eu
          obtain ⟨a, vs, rfl, rd, dz⟩ := asQ_ok r1 dn ex
          rw [← hk] at rd
          refine ⟨a, vs, rfl, rd, by rw [← Paired.len dz]; exact hi, fun p hp => ?_⟩
          have xn : Ext g L1 H1 (L1 ++ [p]) (upd H1 p (.lst (vs.drop i))) := Ext.newM hp
          have rn := r1.newM (ob := .lst (xs.drop i)) hp (.lst upd_same (Dens.ext r1 xn (Paired.dropR i dz))) (r1.h0 hp)
          refine ⟨L1 ++ [p], σd, S1 ++ [.lst (xs.drop i)], _, σ', rn, (sl.ext rp x1).ext r1 xn, Dens.app (Dens.ext r1 xn (Paired.takeL i dz)) (.cons (.ref ?_) .nil), eu, fun σ2 sl2 => ev1 (L1 ++ [p]) _ xn rn σ2 sl2⟩
          have hL : S1.length = L1.length := Paired.len r1.obs
          rw [hL]; simp
        · exact ev1.elim
      · exact ev1.elim
    · exact ev1.elim⟩
theorem qs_starF (hk : X.K = g.K) (hc : X.calm = true) (he : PE X e (T g E me)) (hg : PGs X es (GTs g u)) (hm : (assignEach es' X.env).map (·.2) = (assignEach es X.env).map (·.2) := by rfl)
    (hn : (assignEach es' X.env).length = i + 1 := by rfl) (hst : (assignEach es' X.env).findIdx? (·.1) = some i := by rfl) {tpos : Pos} (hs : swapsWithSole [.Tuple es' k tpos] e pos.line X.env = pure false := by rfl) (hw : swappedStores [.Tuple es' k tpos] e X.env = pure none := by rfl)
    (h1 : (assignEach [.Tuple es' k tpos] X.env).map (·.2) = [assign (.Tuple es' k tpos) X.env] := by rfl) : PS X (.Assign [.Tuple es' k tpos] e pos) (TSt g E (sStarF i u me)) :=
  PS.imp (ps_asg he (pg_star hc (PGs.same hg hm) hn hst) hs hw h1) fun D σ H ⟨L, σd, S, rp, sl, ev⟩ => ⟨L, σd, S, rp, sl, (Ev.bind ev).imp fun d S1 L1 H1 x1 r1 ev1 v dn => by
    split at ev1
    · rename_i xs ex
      split at ev1
      · rename_i zs ez
        split at ev1
        · rename_i hi
          split at ev1
          · rename_i σ' eu
            obtain ⟨a, vs, rfl, rd, dz⟩ := asQ_ok r1 dn ex
            rw [← hk] at rd
            refine ⟨a, vs, rfl, rd, by rw [← Paired.len dz]; exact hi, fun p hp => ?_⟩
            have z : DzAll g.K (g.wr L1) H1 (vs.drop i) zs := dens_dz (pdL_eq ez ▸ Paired.dropR i dz)
            have xn : Ext g L1 H1 L1 (upd H1 p (.lst (vs.drop i))) := Ext.new1 hp
            have rn := r1.new1 (o := .lst (vs.drop i)) hp
            exact ⟨L1, σd, S1, _, σ', rn, (sl.ext rp x1).ext r1 xn, Dens.app (Dens.ext r1 xn (Paired.takeL i dz)) (.cons (.pd (.lst (r1.free hp) (.inl upd_same) (z.new r1 hp))) .nil), eu, fun σ2 sl2 => ev1 L1 _ xn rn σ2 sl2⟩
          · exact ev1.elim
        · exact ev1.elim
      · exact ev1.elim
    · exact ev1.elim⟩
end
end DL
end
section
namespace DL
open PySem PySem.Spec PyProof.Rows L2
open Classical
section
variable {g g' : G} {E : WX} {L L' L0 : List Addr} {H H' H0 : Hp} {S S' : Sto} {σd : Sl} {σ : L2.St} {v : V} {d : D}
variable {X : Cx} {tg a b e : Expr} {me ma mb : DM D} {ml : DM (List D)} {pos p p2 tpos : Pos}

/-! ### tuple(range(..)), list(range(..)) -/
def rgD (a b : Int) : List PyData := (List.range (b - a).toNat).map fun (i : Nat) => .int (a + i)
theorem rg_dz {K : PySem.W.Frag} {W : Addr → Prop} (a b : Int) : DzAll K W H (rgV a b) (rgD a b) := by
  unfold rgV rgD
  generalize List.range (b - a).toNat = l
  induction l with
  | nil => exact .nil
  | cons x l ih => exact .cons (.int _) ih
noncomputable def kRg (tup : Bool) (a b : Int) : Sto → Out D := fun S => if RgOk a b then .ok (if tup = true then .tup (rgD a b) else .lst (rgD a b)) S else .stuck
noncomputable def eRg1 (tup : Bool) (m : DM D) : DM D := mBind m fun d => fun _ S => match d with
  | .pd (.int n) => kRg tup 0 n S
  | _ => .stuck
noncomputable def eRg2 (tup : Bool) (m n : DM D) : DM D := mBind m fun d => mBind n fun d' => fun _ S => match d, d' with
  | .pd (.int i), .pd (.int j) => kRg tup i j S
  | _, _ => .stuck
theorem px_tupRg1 (hc : X.calm = true) (hg : Gl X "tuple") (hm : X.mg "tuple" = none) (hg2 : Gl X "range") (hm2 : X.mg "range" = none) (ha : PE X a (T g E ma)) {p pos p2 pos2 : Pos} (na : starEach [a] X.env = (false, eval a X.env) :: starEach [] X.env := by rfl)
    (nb : starEach [.Call (.Name "range" p2) [a] [] pos2] X.env = (false, eval (.Call (.Name "range" p2) [a] [] pos2) X.env) :: starEach [] X.env := by rfl) :
    PE X (.Call (.Name "tuple" p) [.Call (.Name "range" p2) [a] [] pos2] [] pos) (T g E (eRg1 true ma)) :=
  PE.imp (pe_tupRg hc hg hm (prg_1 hg2 hm2 ha na) nb) fun σ H Q ⟨L, σd, S, rp, sl, ev⟩ => ⟨L, σd, S, rp, sl, ev.step fun d S1 L1 H1 x1 r1 ev1 v dn => by
    split at ev1
    · rename_i n
      cases den_int dn
      unfold kRg at ev1
      split at ev1
      · rename_i hr
        exact ⟨n, rfl, hr, fin_tup r1 ev1 (rg_dz 0 n)⟩
      · exact ev1.elim
    · exact ev1.elim⟩
theorem px_lstRg1 (hc : X.calm = true) (hg : Gl X "list") (hm : X.mg "list" = none) (hg2 : Gl X "range") (hm2 : X.mg "range" = none) (ha : PE X a (T g E ma)) {p pos p2 pos2 : Pos} (na : starEach [a] X.env = (false, eval a X.env) :: starEach [] X.env := by rfl)
    (nb : starEach [.Call (.Name "range" p2) [a] [] pos2] X.env = (false, eval (.Call (.Name "range" p2) [a] [] pos2) X.env) :: starEach [] X.env := by rfl) :
    PE X (.Call (.Name "list" p) [.Call (.Name "range" p2) [a] [] pos2] [] pos) (T g E (eRg1 false ma)) :=
  PE.imp (pe_listRg hc hg hm (prg_1 hg2 hm2 ha na) nb) fun σ H Q ⟨L, σd, S, rp, sl, ev⟩ => ⟨L, σd, S, rp, sl, ev.step fun d S1 L1 H1 x1 r1 ev1 v dn => by
    split at ev1
    · rename_i n
      cases den_int dn
      unfold kRg at ev1
      split at ev1
      · rename_i hr
        exact ⟨n, rfl, hr, fin_lst r1 ev1 (rg_dz 0 n)⟩
      · exact ev1.elim
    · exact ev1.elim⟩

/-! ### zip of two tuples, of two lists that stay -/
def zipIt (xs ys : List PyData) : List D := List.zipWith (fun x y => D.tup [x, y]) xs ys
def wkZip : List D → DM Wk := fun ds _ S => match ds with
  | [.pd (.tuple xs), .pd (.tuple ys)] => .ok ⟨zipIt xs ys, .no⟩ S
  | [.pd (.list xs), .pd (.list ys)] => .ok ⟨zipIt xs ys, .no⟩ S
  | _ => .stuck
def iZip (m : DM (List D)) : DM Wk := mBind m wkZip
theorem zipIt_get {xs ys : List PyData} {i : Nat} (e : (zipIt xs ys)[i]? = some d) : ∃ x y, xs[i]? = some x ∧ ys[i]? = some y ∧ d = .tup [x, y] := by
  unfold zipIt at e
  rw [List.getElem?_zipWith] at e
  cases e1 : xs[i]? with
  | none => rw [e1] at e; cases e
  | some x =>
    cases e2 : ys[i]? with
    | none => rw [e1, e2] at e; cases e
    | some y => rw [e1, e2] at e; cases e; exact ⟨x, y, rfl, rfl, rfl⟩
theorem DzAll.getZ {K : PySem.W.Frag} {W : Addr → Prop} {ds : List PyData} {vs : List V} (h : DzAll K W H vs ds) {i : Nat} {d : PyData} (e : ds[i]? = some d) : ∃ v, vs[i]? = some v ∧ Dz K W H v d := h.get e
theorem pairNew {x y : V} {dx dy : PyData} {T : Addr} (r : RepS g' L S H) (hT : H T = none) (hx : Dz g'.K (g'.wr L) H x dx) (hy : Dz g'.K (g'.wr L) H y dy) : Ext g L H L (upd H T (.tup [x, y])) ∧ RepS g' L S (upd H T (.tup [x, y])) ∧ Den g' L (upd H T (.tup [x, y])) (.tup [dx, dy]) (.ref T) := by
  have rn := r.new1 (o := .tup [x, y]) hT
  have z : DzAll g'.K (g'.wr L) H [x, y] [dx, dy] := .cons hx (.cons hy .nil)
  exact ⟨Ext.any (g := g') (Ext.new1 hT), rn, .pd (.tup (SqT.of upd_same) (z.new r hT))⟩
theorem ix_zip (hK : X.K = g.K) (hg : Gl X "zip") (hm : X.mg "zip" = none) {elts : List Expr} {kk : Nat} (ha : PA X [a, b] (TL g E ml))
    (hs : starEach [a, b] X.env = (false, eval a X.env) :: starEach [b] X.env := by rfl) (hpl : (backTo pos (starEach [b] X.env)).any (·.1) = false := by rfl) :
    PI X (.Tuple elts kk tpos) (.Call (.Name "zip" p) [a, b] [] pos) (TW g E (iZip ml)) :=
  PI.imp (RZ.pi_zipA hg hm ha hs hpl) fun σ H R ⟨L, σd, S, rp, sl, ev⟩ => ⟨L, σd, S, rp, sl, ev.step fun ds S1 L1 H1 x1 r1 ev1 vs dn => by
    unfold wkZip at ev1
    split at ev1
    · rename_i xs ys
      have fin := ev1.ok r1
      cases dn with
      | cons n1 n2 =>
        cases n2 with
        | cons n2 n3 =>
          cases n3
          obtain ⟨p1, v1, rfl, ds1, h1⟩ := seq_stays (S := S1) r1 n1 (xs := xs.map .pd) rfl
          obtain ⟨p2, v2, rfl, ds2, h2⟩ := seq_stays (S := S1) r1 n2 (xs := ys.map .pd) rfl
          obtain ⟨_, _, e1, t1, _⟩ := den_tup n1
          obtain ⟨_, _, e2, t2, _⟩ := den_tup n2
          cases e1; cases e2
          obtain ⟨a1, w1, e1, t1, z1⟩ := den_tup n1
          obtain ⟨a2, w2, e2, t2, z2⟩ := den_tup n2
          cases e1; cases e2
          rw [hK]
          refine ⟨p1, p2, w1, w2, rfl, .inr ⟨t1, t2, fin _ fun g' L S H gx x r' _ => ?_⟩⟩
          have stay : ∀ {p : Addr} {w : List V}, SqT g.K H1 p w → SqT g.K H p w := fun {p w} rd => SqT.keep rd fun zs hz o e' => x.keep p o e' fun hm => by
            obtain ⟨o2, e2, nt⟩ := r1.there hm
            rcases hz with hz | ⟨o3, hz⟩
            · rw [hz] at e2; cases e2; exact nt.1 zs rfl
            · rw [hz] at e2; cases e2; exact nt.2 o3 zs rfl
          refine ⟨fun i d e => ?_, w1, w2, stay t1, stay t2, ?_⟩
          · obtain ⟨dx, dy, ex, ey, rfl⟩ := zipIt_get e
            obtain ⟨x', gx', zx⟩ := z1.get ex
            obtain ⟨y', gy', zy⟩ := z2.get ey
            refine ⟨⟨w1, w2, x', y', stay t1, stay t2, gx', gy'⟩, fun z H' hz => ?_⟩
            obtain ⟨T, x2, y2, rfl, hT, rfl, f1, f2⟩ := hz
            have e3 := f1 _ (stay t1)
            have e4 := f2 _ (stay t2)
            rw [gx'] at e3; cases e3
            rw [gy'] at e4; cases e4
            have k := kpx r1 gx x
            exact pairNew r' hT (gx.K ▸ zx.keep k) (gx.K ▸ zy.keep k)
          · rw [z1.len, z2.len]
            show _ ≤ (zipIt xs ys).length ∨ _ ≤ (zipIt xs ys).length
            unfold zipIt
            rw [List.length_zipWith]
            omega
    · rename_i xs ys
      have fin := ev1.ok r1
      cases dn with
      | cons n1 n2 =>
        cases n2 with
        | cons n2 n3 =>
          cases n3
          cases n1 with
          | pd q1 =>
          cases n2 with
          | pd q2 =>
          cases q1 with
          | @lst p1 w1 _ nw1 t1 z1 =>
          cases q2 with
          | @lst p2 w2 _ nw2 t2 z2 =>
          rw [hK]
          refine ⟨p1, p2, w1, w2, rfl, .inl ⟨.inl t1, .inl t2, fin _ fun g' L S H gx x r' _ => ?_⟩⟩
          have stay : ∀ {p : Addr} {w : List V}, ¬ g.wr L1 p → Rd H1 p (.lst w) → SqL g.K H p w := fun {p w} nw rd => .inl (Rd.keep rd fun o e' => x.keep p o e' fun hm => nw (.inr hm))
          refine ⟨fun i d e => ?_, w1, w2, stay nw1 t1, stay nw2 t2, ?_⟩
          · obtain ⟨dx, dy, ex, ey, rfl⟩ := zipIt_get e
            obtain ⟨x', gx', zx⟩ := z1.get ex
            obtain ⟨y', gy', zy⟩ := z2.get ey
            refine ⟨⟨w1, w2, x', y', stay nw1 t1, stay nw2 t2, gx', gy'⟩, fun z H' hz => ?_⟩
            obtain ⟨T, x2, y2, rfl, hT, rfl, f1, f2⟩ := hz
            have e3 := f1 _ (stay nw1 t1)
            have e4 := f2 _ (stay nw2 t2)
            rw [gx'] at e3; cases e3
            rw [gy'] at e4; cases e4
            have k := kpx r1 gx x
            exact pairNew r' hT (gx.K ▸ zx.keep k) (gx.K ▸ zy.keep k)
          · rw [z1.len, z2.len]
            show _ ≤ (zipIt xs ys).length ∨ _ ≤ (zipIt xs ys).length
            unfold zipIt
            rw [List.length_zipWith]
            omega
    · exact ev1.elim⟩
end
end DL
end
section
namespace DL
open PySem PySem.Spec PyProof.Rows L2

/-! ### a def that hands back a new object that may change -/
def finM (k : Nat) (d : D) (S : Sto) : Out D := match d with
  | .ref n => if k ≤ n then (match S[n]? with
    | some ob => if (S.take k).all pdOb = true ∧ pdOb ob = true then .ok (.ref k) (S.take k ++ [ob]) else .stuck
    | none => .stuck) else .stuck
  | _ => .stuck
def runFM (n : Nat) (m : DM Fl) : DF := fun ds S => match m (startD n ds) S with
  | .ok (.ret d) S' => finM S.length d S'
  | .ok _ _ => .stuck
  | .exc e _ S' => if (S'.take S.length).all pdOb = true ∧ (e.fs.all fun p => noRef p.2) = true then .exc e [] (S'.take S.length) else .stuck
  | .stuck => .stuck
def callFM (n : Nat) (f : DF) (ds : List D) : DM D := fun σ S => match obsAt S (refsOf ds) with
  | some os => if ds.length = n ∧ (refsOf ds).Nodup ∧ os.all pdOb = true then (match f (renum 0 ds) os with
    | .ok (.ref k) S' => (match S'[os.length]? with
      | some ob => if k = os.length ∧ S'.length = os.length + 1 ∧ (S'.take os.length).all pdOb = true ∧ pdOb ob = true then .ok (.ref S.length) (putAll S (refsOf ds) (S'.take os.length) ++ [ob]) else .stuck
      | none => .stuck)
    | .ok _ _ => .stuck
    | .exc e _ S' => if S'.length = os.length ∧ S'.all pdOb = true ∧ (e.fs.all fun p => noRef p.2) = true then .exc e σ (putAll S (refsOf ds) S') else .stuck
    | .stuck => .stuck) else .stuck
  | none => .stuck
section
variable {g g' : G} {E : WX} {L L' : List Addr} {H H' : Hp} {S S' : Sto} {σd : Sl} {σ : L2.St} {v : V} {d : D}
theorem RepS.trimM (r : RepS g L S H) {n : Nat} {a : Addr} {ob : Ob} (ha : L[n]? = some a) (hb : S[n]? = some ob) (hn : g.as.length ≤ n) (p1 : (S.take g.as.length).all pdOb = true) (p2 : pdOb ob = true) :
    a ∉ g.as ∧ RepS g (g.as ++ [a]) (S.take g.as.length ++ [ob]) H := by
  obtain ⟨t, ht⟩ := r.pre
  have hna : a ∉ g.as := fun hm => by
    obtain ⟨j, hj, ej⟩ := List.mem_iff_getElem.mp hm
    have e1 : L[j]? = some a := by rw [← ht, List.getElem?_append_left hj, List.getElem?_eq_getElem hj, ej]
    have e2 := List.getElem?_eq_some_iff.mp e1
    have e3 := List.getElem?_eq_some_iff.mp ha
    have := (List.getElem_inj r.nd).mp (e2.2.trans e3.2.symm)
    omega
  have haL : a ∈ L := List.mem_of_getElem? ha
  have sub : ∀ b, b ∈ g.as ++ [a] → b ∈ L := fun b hb => by
    rcases List.mem_append.mp hb with h | h
    · exact mem_pre r.pre h
    · rw [show b = a by simpa using h]; exact haL
  have wsub : ∀ b, g.wr (g.as ++ [a]) b → g.wr L b := fun b w => w.imp id (sub b)
  refine ⟨hna, ?_, List.prefix_append _ _, ?_, fun b hb na => r.fresh b (sub b hb) na, fun b hb na => r.own b (sub b hb) na, r.keep, r.amb, r.asW⟩
  · rw [List.nodup_append]
    refine ⟨r.nd.sublist r.pre.sublist, by simp, fun b hb c hc e => ?_⟩
    have e2 : c = a := by simpa using hc
    subst e2; subst e
    exact hna hb
  · have h := Paired.takeL g.as.length r.obs
    have e : L.take g.as.length = g.as := by rw [← ht]; simp
    rw [e] at h
    obtain ⟨a2, ea, od⟩ := Paired.get r.obs hb
    rw [ha] at ea
    cases ea
    exact Paired.app (Paired.memL h fun ob a ho _ q => q.move rfl rfl wsub (List.all_eq_true.mp p1 _ ho)) (.cons (od.move rfl rfl wsub p2) .nil)
/-- behind a call that made an object -/
theorem call_backM (r : RepS g L S H) {idx : List Nat} {os : List Ob} {S2 : Sto} {ob : Ob} (nd : idx.Nodup) (e : obsAt S idx = some os) (h2 : S2.length = os.length) (n : S2.all pdOb = true) (nb : pdOb ob = true)
    {L2 : List Addr} (x : Ext (g.call L H idx) (addrsAt L idx) H L2 H') (r2 : RepS (g.call L H idx) L2 (S2 ++ [ob]) H') : ∃ a, L2 = addrsAt L idx ++ [a] ∧ Ext g L H (L ++ [a]) H' ∧ RepS g (L ++ [a]) (putAll S idx S2 ++ [ob]) H' := by
  have hl : ∀ i ∈ idx, i < L.length := fun i hi => by rw [← Paired.len r.obs]; exact obsAt_lt e i hi
  have hS2 : S2.length = (addrsAt L idx).length := by rw [h2, obsAt_len e, addrsAt_len]
  obtain ⟨t, rfl⟩ := x.pre
  have ht : t.length = 1 := by
    have := Paired.len r2.obs
    rw [List.length_append, List.length_append, List.length_singleton] at this
    omega
  obtain ⟨a, rfl⟩ := List.length_eq_one_iff.mp ht
  have sub : ∀ a, a ∈ addrsAt L idx → a ∈ L := fun a h => let ⟨_, _, q⟩ := addrsAt_mem h hl; List.mem_of_getElem? q
  have haN : a ∉ addrsAt L idx := fun h => by
    have := r2.nd
    rw [List.nodup_append] at this
    exact this.2.2 a h a (by simp) rfl
  have ha0 : H a = none := x.new a (by simp) haN
  have hfr : ¬ g.wr L a := r.free ha0
  have haL : a ∉ L := fun h => hfr (.inr h)
  have x' : Ext g L H (L ++ [a]) H' := ⟨List.prefix_append _ _, fun b hb nb => by
    rcases List.mem_append.mp hb with h | h
    · exact absurd h nb
    · rw [show b = a by simpa using h]; exact ha0, fun b o q na => x.keep b o q fun z => na (sub b z), x.there⟩
  have wsub : ∀ b, g.wr (L ++ [a]) b → (g.call L H idx).wr (addrsAt L idx ++ [a]) b := fun b w => by
    rcases w with w | w
    · exact .inl (.inl w)
    · rcases List.mem_append.mp w with w | w
      · exact .inl (.inr w)
      · exact .inr (List.mem_append.mpr (.inr w))
  refine ⟨a, rfl, x', ?_, r.pre.trans (List.prefix_append _ _), ?_, fun b hb na => ?_, fun b hb na => ?_, fun b o q na => ?_, fun b w => r2.amb b (.inl w), r.asW⟩
  · rw [List.nodup_append]
    refine ⟨r.nd, by simp, fun b hb c hc e => ?_⟩
    have e2 : c = a := by simpa using hc
    subst e2; subst e
    exact haL hb
  · refine Paired.app (paired_of (by rw [putAll_length]; exact Paired.len r.obs) fun i ob' b e1 e2 => ?_) (.cons ?_ .nil)
    · by_cases hi : i ∈ idx
      · obtain ⟨j, hj, ej⟩ := List.mem_iff_getElem.mp hi
        have ej' : idx[j]? = some i := by rw [List.getElem?_eq_getElem hj, ej]
        have hjS : j < S2.length := by rw [h2, obsAt_len e]; exact hj
        have eo : S2[j]? = some S2[j] := List.getElem?_eq_getElem hjS
        have eo' : (S2 ++ [ob])[j]? = some S2[j] := by rw [List.getElem?_append_left hjS]; exact eo
        have := putAll_in (S := S) nd (fun i hi => obsAt_lt e i hi) ej' eo
        rw [this] at e1
        obtain ⟨a2, ea, od⟩ := Paired.get r2.obs eo'
        have ea2 := addrsAt_get (L := L) ej'
        rw [List.getElem?_append_left (List.getElem?_eq_some_iff.mp ea2).1, ea2, getD_of e2] at ea
        cases ea
        cases e1
        exact od.move (g := g.call L H idx) (g' := g) rfl rfl wsub (List.all_eq_true.mp n _ (List.getElem_mem hjS))
      · rw [putAll_out hi] at e1
        obtain ⟨a2, ea, od⟩ := Paired.get r.obs e1
        rw [e2] at ea
        cases ea
        refine od.ext r x' fun o q => x.keep b o q fun z => ?_
        obtain ⟨j, hj, q2⟩ := addrsAt_mem z hl
        have a1 := List.getElem?_eq_some_iff.mp e2
        have a3 := List.getElem?_eq_some_iff.mp q2
        have := (List.getElem_inj r.nd).mp (a1.2.trans a3.2.symm)
        subst this
        exact hi hj
    · have e1 : (S2 ++ [ob])[S2.length]? = some ob := by simp
      obtain ⟨a2, ea, od⟩ := Paired.get r2.obs e1
      rw [hS2] at ea
      simp at ea
      subst ea
      exact od.move (g := g.call L H idx) (g' := g) rfl rfl wsub nb
  · rcases List.mem_append.mp hb with h | h
    · exact r.fresh b h na
    · rw [show b = a by simpa using h]
      cases q : g.H0 a with
      | none => rfl
      | some o => exact (r.h0 ha0 o q).elim
  · rcases List.mem_append.mp hb with h | h
    · exact r.own b h na
    · rw [show b = a by simpa using h]; exact fun w => hfr (.inl w)
  · refine x.keep b o (r.keep b o q na) fun z => ?_
    have := r.fresh b (sub b z) na
    rw [q] at this; cases this
theorem Fun.dlM {P : Program} {w : World} {K : PySem.W.Frag} {mg : Str → Option Value} {base : Heap} {x qual : Str} {st : Stmt} {f : Addr} {fd : FuncData} {N ps : List Str} {k : Nat} {m : DM Fl} (F : Fun K x qual st f fd) (Sc : FnScope N ps (defScope st))
    (hb : ∀ (cdv : Value) (A : Around) (outer : List Env) (s : Shared) (H : Hp) (E : XK) (W : Addr → Prop) (as : List Addr), RoomG k (A.deeper (envOfC qual (defScope st) s.heap.objs.size f cdv)) →
      PSs (cxOf (L2.CX P w) P w K mg base N qual (defScope st) f cdv A outer s H E) (defBody st) (TSt ⟨K, mg, W, H, as⟩ (fun c d _ H => E c d H) m)) :
    FnG P w K mg base (k + 1) f fd ps (spM K mg ps.length (runFM N.length m)) := by
  refine Fun.okG F Sc (fun vs H Q E h => h.1) (fun cdv A outer s H vs Q E hr h => ?_)
  obtain ⟨hl, W, as, ds, S, rp, dn, ev⟩ := h
  refine ⟨_, hb cdv A outer s H E W as hr, as, startD N.length ds, S, rp, startD_sl dn, ?_⟩
  have hS : S.length = as.length := Paired.len rp.obs
  unfold runFM at ev
  cases em : m (startD N.length ds) S with
  | ok fl S' =>
    rw [em] at ev
    cases fl with
    | ret d =>
      intro L' H' x r v dn'
      show Q v H'
      unfold finM at ev
      dsimp only at ev
      split at ev
      · rename_i n
        split at ev
        · rename_i hn
          split at ev
          · rename_i ob hob
            split at ev
            · rename_i hp
              rw [hS] at ev hp hn
              cases dn' with
              | @ref _ a ha =>
                obtain ⟨hna, rt⟩ := r.trimM (g := ⟨K, mg, W, H, as⟩) ha hob hn hp.1 hp.2
                refine ev (as ++ [a]) H' ⟨List.prefix_append _ _, fun b hb nb => ?_, x.keep, x.there⟩ rt (.ref a) (.ref (by simp))
                rcases List.mem_append.mp hb with h | h
                · exact absurd h nb
                · rw [show b = a by simpa using h]; exact x.new a (List.mem_of_getElem? ha) hna
            · exact ev.elim
          · exact ev.elim
        · exact ev.elim
      · exact ev.elim
    | next σ => exact ev.elim
    | brk σ => exact ev.elim
    | cont σ => exact ev.elim
  | exc e σ S' =>
    rw [em] at ev
    dsimp only at ev
    split at ev
    · rename_i hp
      rw [hS] at ev hp
      intro L' H' c x σ y r sl ex
      exact ev as H' c x [] y.trim (r.trim hp.1) (fun i d z => by simp at z) (ex.move rfl rfl (fun b w => w.imp id fun z => mem_pre r.pre z) hp.2)
    · exact ev.elim
  | stuck => rw [em] at ev; exact ev.elim
variable {X : Cx} {ml : DM (List D)} {es : List Expr} {e : Expr} {p pos : Pos} {x : Str} {k n : Nat} {f : Addr} {fd : FuncData} {ps : List Str} {fm : DF}
theorem call_readsM (hK : X.K = g.K) (hmg : X.mg = g.mg) {Q : VK} (h : T g E (mBind ml (callFM n fm)) σ H Q) : TL g E ml σ H (fun vs H1 => spM X.K X.mg n fm vs H1 Q (WE E σ)) := by
  obtain ⟨L, σd, S, rp, sl, ev⟩ := h
  refine ⟨L, σd, S, rp, sl, ev.step fun ds S1 L1 H1 x1 r1 ev1 vs dn => ?_⟩
  show spM X.K X.mg n fm vs H1 Q (WE E σ)
  unfold callFM at ev1
  split at ev1
  · rename_i os eo
    split at ev1
    · rename_i hc
      obtain ⟨hn, nd, hp⟩ := hc
      have hl : ∀ i ∈ refsOf ds, i < L1.length := fun i hi => by rw [← Paired.len r1.obs]; exact obsAt_lt eo i hi
      refine ⟨by rw [← Paired.len dn]; exact hn, g.wr L1, addrsAt L1 (refsOf ds), renum 0 ds, os, ?_, ?_, ?_⟩
      · rw [hK, hmg]; exact call_rep r1 nd eo hp
      · rw [hK, hmg]; exact call_dens r1 hl 0 rfl dn
      · rw [hK, hmg]
        show Ev (g.call L1 H1 (refsOf ds)) _ _ _ _ _
        split at ev1
        · rename_i k S2 ef
          split at ev1
          · rename_i ob hob
            split at ev1
            · rename_i hd
              obtain ⟨rfl, hd2, hd3, hd4⟩ := hd
              rw [ef]
              intro L' H' x r' v dn'
              have hS2 : S2 = S2.take os.length ++ [ob] := by
                have := List.getElem?_eq_some_iff.mp hob
                obtain ⟨hlt, hob'⟩ := this
                conv => lhs; rw [← List.take_append_drop os.length S2]
                congr 1
                rw [List.drop_eq_getElem_cons hlt, hob', List.drop_eq_nil_of_le (by omega)]
              rw [hS2] at r'
              obtain ⟨a, rfl, x2, r2⟩ := call_backM r1 nd eo (by rw [List.length_take]; omega) hd3 hd4 x r'
              cases dn' with
              | @ref _ a' ha =>
                have hal : os.length = (addrsAt L1 (refsOf ds)).length := by rw [obsAt_len eo, addrsAt_len]
                rw [hal] at ha
                simp at ha
                subst ha
                exact ev1 (L1 ++ [a]) H' x2 r2 (.ref a) (.ref (by rw [Paired.len r1.obs]; simp))
            · exact ev1.elim
          · exact ev1.elim
        · exact ev1.elim
        · rename_i ex _ S2 ef
          split at ev1
          · rename_i hd
            rw [ef]
            intro L' H' c y σ' x r' _ dn'
            obtain ⟨rfl, x2, r2⟩ := call_back r1 nd eo hd.1 hd.2.1 x r'
            exact ev1 L1 H' c y σ x2 r2 ((sl.ext rp x1).ext r1 x2) (dn'.move (g := g.call L1 H1 (refsOf ds)) (g' := g) rfl rfl (fun b w => (call_wr (g := g) (L := L1) (H := H1) (idx := refsOf ds) hl).mpr w) hd.2.2)
          · exact ev1.elim
        · exact ev1.elim
    · exact ev1.elim
  · exact ev1.elim
theorem px_callM (F : FnG X.prog X.w X.K X.mg X.base k f fd ps (spM X.K X.mg n fm)) (hr : RoomG k X.A) (hg : Gl X x) (hm : X.mg x = some (.ref f)) (hk : PySem.W.keepIn X.K (.ref f) = true) (hb : Binds X.K fd ps [])
    (hK : X.K = g.K) (hmg : X.mg = g.mg) (tk : Takes X E) (ha : PA X (e :: es) (TL g E ml)) (hdb : (x == ("__debug__" : Str)) = false := by decide) (he : starEach (e :: es) X.env = (false, eval e X.env) :: starEach es X.env := by rfl)
    (hpl : (backTo pos (starEach es X.env)).any (·.1) = false := by rfl) : PE X (.Call (.Name x p) (e :: es) [] pos) (T g E (mBind ml (callFM n fm))) :=
  PE.imp (pe_callG (E := fun σ => WE E σ) F hr hg hm hk hb (fun σ => passAt tk σ) ha hdb he hpl) fun σ H Q h => call_readsM hK hmg h
end
end DL
end
section
namespace DL
open PySem PySem.Spec PyProof.Rows L2
section
variable {X : Cx} {g : G} {E : WX} {a b e : Expr} {es : List Expr} {m : DM D} {ml : DM (List D)} {op : CmpOp} {pos p : Pos}
theorem pe_cmpC (h : PC X op a b (T g E m)) (h1 : behindInMarks op b = false := by rfl) : PE X (.Compare a [op] [b] pos) (T g E m) := pe_cmp h h1
theorem pt_cmpC (h : PC X op a b (T g E m)) (h1 : behindInMarks op b = false := by rfl) : PT X (.Compare a [op] [b] pos) (TB g E (eTest m)) :=
  PT.imp (pt_cmp h h1) fun σ H Q ⟨L, σd, S, rp, sl, ev⟩ => ⟨L, σd, S, rp, sl, ev.step fun d S' L' H' x r' ev' v dn => asB_ok r' dn ev'⟩
theorem units65 {k : Nat} {A : Around} (r : Room k A) : A.units + 65 < cLine := by have := r.un; omega
theorem units1 {k : Nat} {A : Around} (r : Room k A) : A.units + 1 < cLine := by have := r.un; omega
end
/-- a def of the text, as its callers know it -/
structure Cal (P : Program) (w : World) (K : PySem.W.Frag) (mg : Str → Option Value) (base : Heap) (k : Nat) (x : Str) (ps : List Str) (f : DF) : Prop where
  ex : ∃ (a : Addr) (fd : FuncData), FnG P w K mg base k a fd ps (spM K mg ps.length f) ∧ mg x = some (.ref a) ∧ PySem.W.keepIn K (.ref a) = true ∧ Binds K fd ps []
theorem Cal.mono {P : Program} {w : World} {K : PySem.W.Frag} {mg : Str → Option Value} {base : Heap} {j k : Nat} {x : Str} {ps : List Str} {f : DF} (c : Cal P w K mg base j x ps f) (h : j ≤ k := by decide) : Cal P w K mg base k x ps f :=
  let ⟨a, fd, F, r⟩ := c.ex
  ⟨a, fd, F.mono h, r⟩
theorem Cal.of {P : Program} {w : World} {K : PySem.W.Frag} {mg : Str → Option Value} {base : Heap} {k : Nat} {x : Str} {ps : List Str} {f : DF} {a : Addr} {fd : FuncData} {st : Stmt} {q : Str} (F : FnG P w K mg base k a fd ps (spM K mg ps.length f)) (hm : mg x = some (.ref a)) (Fu : Fun K x q st a fd) (hb : Binds K fd ps []) : Cal P w K mg base k x ps f :=
  ⟨a, fd, F, hm, Fu.kp, hb⟩
section
variable {X : Cx} {g : G} {E : WX} {e : Expr} {es : List Expr} {ml : DM (List D)} {pos p : Pos} {k : Nat} {x : Str} {ps : List Str} {fm : DF}
theorem px_callC {n : Nat} (C : Cal X.prog X.w X.K X.mg X.base k x ps fm) (hr : RoomG k X.A) (hg : Gl X x) (hK : X.K = g.K) (hmg : X.mg = g.mg) (tk : Takes X E) (ha : PA X (e :: es) (TL g E ml)) (hdb : (x == ("__debug__" : Str)) = false := by decide) (he : starEach (e :: es) X.env = (false, eval e X.env) :: starEach es X.env := by rfl)
    (hpl : (backTo pos (starEach es X.env)).any (·.1) = false := by rfl) (hn : ps.length = n := by rfl) : PE X (.Call (.Name x p) (e :: es) [] pos) (T g E (mBind ml (callF n fm))) := by
  subst hn
  obtain ⟨a, fd, F, hm, hk, hb⟩ := C.ex
  exact px_call F hr hg hm hk hb hK hmg tk ha hdb he hpl
theorem px_callCM {n : Nat} (C : Cal X.prog X.w X.K X.mg X.base k x ps fm) (hr : RoomG k X.A) (hg : Gl X x) (hK : X.K = g.K) (hmg : X.mg = g.mg) (tk : Takes X E) (ha : PA X (e :: es) (TL g E ml)) (hdb : (x == ("__debug__" : Str)) = false := by decide) (he : starEach (e :: es) X.env = (false, eval e X.env) :: starEach es X.env := by rfl)
    (hpl : (backTo pos (starEach es X.env)).any (·.1) = false := by rfl) (hn : ps.length = n := by rfl) : PE X (.Call (.Name x p) (e :: es) [] pos) (T g E (mBind ml (callFM n fm))) := by
  subst hn
  obtain ⟨a, fd, F, hm, hk, hb⟩ := C.ex
  exact px_callM F hr hg hm hk hb hK hmg tk ha hdb he hpl
end
end DL
end
section
namespace DL
open PySem PySem.Spec PyProof.Rows L2
/-- the law's promise, whatever the module's names -/
def spE (K : PySem.W.Frag) (f : DF) : Sp := fun vs H Q E => vs.length = 1 ∧ ∀ mg, spM K mg 1 f vs H Q E
theorem FnG.toE {P : Program} {w : World} {K : PySem.W.Frag} {mg : Str → Option Value} {base : Heap} {k : Nat} {a : Addr} {fd : FuncData} {x : Str} {f : DF} (F : FnG P w K mg base k a fd [x] (spM K mg 1 f)) : FnG P w K mg base k a fd [x] (spE K f) :=
  ⟨fun vs H Q E h => h.1, fun A outer s H args us vs Q E hr e0 hb r h => F.run A outer s H args us vs Q E hr e0 hb r (h.2 mg)⟩
theorem noX {P : Program} {w : World} {H : Hp} {s : Shared} {e : Value} {s' : Shared} (z : L2.CX P w [] H s (fun _ _ _ => False) e s') : False := by
  obtain ⟨_, _, _, _, _, _, _, _, _, _, _, _, h⟩ := z
  exact h
theorem spE_law {K : PySem.W.Frag} {f : DF} (hlaw : ∀ ns : List Int, ns.length ≤ 63 → f [.lst (ns.map .int)] [] = .ok (.bl true) []) {H : Hp} {a : Addr} {ns : List Int} (hl : ns.length ≤ 63) (hS : Rd H a (.lst (ns.map V.int))) : spE K f [.ref a] H (fun v _ => v = .bl true) fun _ _ _ => False := by
  refine ⟨rfl, fun mg => ⟨rfl, fun _ => False, [], [.lst (ns.map .int)], [], ?_, ?_, ?_⟩⟩
  · exact ⟨List.nodup_nil, List.prefix_refl _, .nil, fun _ h => (nomatch h), fun _ h => (nomatch h), fun _ _ e _ => e, fun _ h => False.elim h, fun _ h => (nomatch h)⟩
  · have z : ∀ ns : List Int, DzAll K (fun a => False ∨ a ∈ ([] : List Addr)) H (ns.map V.int) (ns.map .int) := fun ns => by
      induction ns with
      | nil => exact .nil
      | cons n r ih => exact .cons (.int n) ih
    exact .cons (.pd (.lst (fun w => w.elim id fun h => (nomatch h)) hS (z ns))) .nil
  · rw [hlaw ns hl]
    intro L' H' x r v dn
    exact den_bl dn
end DL
end
section
namespace DL
open PySem PySem.Spec PyProof.Rows L2
open Classical
section
variable {g g' : G} {E : WX} {L L' L0 : List Addr} {H H' H0 : Hp} {S S' : Sto} {σd : Sl} {σ : L2.St} {v : V} {d : D}
variable {X : Cx} {tg a b c e : Expr} {me ma mb : DM D} {ml : DM (List D)} {pos p p2 tpos px py pz pt : Pos}
/-! ### a, b = x, y; a, b, c = x, y, z: plain local names -/
def sPar (i j : Nat) (ml : DM (List D)) : DM Fl := fun σ S => (ml σ S).bind fun ds S' => match ds with
  | [d, e] => .ok (.next ((σ.set i (some d)).set j (some e))) S'
  | _ => .stuck
def sPar3 (i j l : Nat) (ml : DM (List D)) : DM Fl := fun σ S => (ml σ S).bind fun ds S' => match ds with
  | [d, e, f] => .ok (.next (((σ.set i (some d)).set j (some e)).set l (some f))) S'
  | _ => .stuck
theorem qs_par {i j : Nat} {x y : Str} {kt k2 pt2} (hc : X.calm = true) (hN : X.N.Nodup) (hi : X.N[i]? = some x) (hj : X.N[j]? = some y) (hij : i ≠ j)
    (hx : X.env.scope.names.lookup x = some .local) (hy : X.env.scope.names.lookup y = some .local) (ha : PA X [a, b] (TL g E ml))
    (hw : swappedStores [.Tuple [.Name x px, .Name y py] kt pt] (.Tuple [a, b] k2 pt2) X.env = pure (some [x, y]))
    (hs : swapsWithSole [.Tuple [.Name x px, .Name y py] kt pt] (.Tuple [a, b] k2 pt2) pos.line X.env = pure false := by rfl) :
    PS X (.Assign [.Tuple [.Name x px, .Name y py] kt pt] (.Tuple [a, b] k2 pt2) pos) (TSt g E (sPar i j ml)) :=
  PS.imp (PS.len (ps_par hc hN hi hj hij hx hy ha hw hs)) fun D σ H ⟨L, σd, S, rp, sl, ev⟩ hl => ⟨L, σd, S, rp, sl, (Ev.bind ev).imp fun ds S' L' H' x r' ev' vs dn => by
    have l1 : i < σ.length := by rw [hl]; exact (List.getElem?_eq_some_iff.mp hi).1
    have l2 : j < σ.length := by rw [hl]; exact (List.getElem?_eq_some_iff.mp hj).1
    split at ev'
    · cases dn with
      | cons d1 dn =>
        cases dn with
        | cons d2 dn =>
          cases dn
          exact ⟨_, _, rfl, ev'.ok r' _ (((sl.ext rp x).put d1 i l1).put d2 j (by rw [List.length_set]; exact l2))⟩
    · exact ev'.elim⟩
theorem qs_par3 {i j l : Nat} {x y z : Str} {kt k2 pt2} (hc : X.calm = true) (hN : X.N.Nodup) (hi : X.N[i]? = some x) (hj : X.N[j]? = some y) (hl : X.N[l]? = some z) (hij : i ≠ j) (hil : i ≠ l) (hjl : j ≠ l)
    (hx : X.env.scope.names.lookup x = some .local) (hy : X.env.scope.names.lookup y = some .local) (hz : X.env.scope.names.lookup z = some .local) (ha : PA X [a, b, c] (TL g E ml))
    (hw : swappedStores [.Tuple [.Name x px, .Name y py, .Name z pz] kt pt] (.Tuple [a, b, c] k2 pt2) X.env = pure (some [x, y, z]))
    (hs : swapsWithSole [.Tuple [.Name x px, .Name y py, .Name z pz] kt pt] (.Tuple [a, b, c] k2 pt2) pos.line X.env = pure false := by rfl) :
    PS X (.Assign [.Tuple [.Name x px, .Name y py, .Name z pz] kt pt] (.Tuple [a, b, c] k2 pt2) pos) (TSt g E (sPar3 i j l ml)) :=
  PS.imp (PS.len (ps_par3 hc hN hi hj hl hij hil hjl hx hy hz ha hw hs)) fun D σ H ⟨L, σd, S, rp, sl, ev⟩ hn => ⟨L, σd, S, rp, sl, (Ev.bind ev).imp fun ds S' L' H' x r' ev' vs dn => by
    have l1 : i < σ.length := by rw [hn]; exact (List.getElem?_eq_some_iff.mp hi).1
    have l2 : j < σ.length := by rw [hn]; exact (List.getElem?_eq_some_iff.mp hj).1
    have l3 : l < σ.length := by rw [hn]; exact (List.getElem?_eq_some_iff.mp hl).1
    split at ev'
    · cases dn with
      | cons d1 dn =>
        cases dn with
        | cons d2 dn =>
          cases dn with
          | cons d3 dn =>
            cases dn
            exact ⟨_, _, _, rfl, ev'.ok r' _ ((((sl.ext rp x).put d1 i l1).put d2 j (by rw [List.length_set]; exact l2)).put d3 l (by rw [List.length_set, List.length_set]; exact l3))⟩
    · exact ev'.elim⟩
/-! ### list(range(n)) that changes -/
noncomputable def eRgM1 (m : DM D) : DM D := mBind m fun d => fun _ S => match d with
  | .pd (.int n) => if RgOk 0 n then .ok (.ref S.length) (S ++ [.lst ((rgD 0 n).map D.pd)]) else .stuck
  | _ => .stuck
theorem rg_dens (a b : Int) : Dens g L H ((rgD a b).map D.pd) (rgV a b) := by
  unfold rgV rgD
  generalize List.range (b - a).toNat = l
  induction l with
  | nil => exact .nil
  | cons x l ih => exact .cons (.pd (.int _)) ih
theorem px_lstRgM1 (hc : X.calm = true) (hg : Gl X "list") (hm : X.mg "list" = none) (hg2 : Gl X "range") (hm2 : X.mg "range" = none) (ha : PE X a (T g E ma)) {p pos p2 pos2 : Pos} (na : starEach [a] X.env = (false, eval a X.env) :: starEach [] X.env := by rfl)
    (nb : starEach [.Call (.Name "range" p2) [a] [] pos2] X.env = (false, eval (.Call (.Name "range" p2) [a] [] pos2) X.env) :: starEach [] X.env := by rfl) :
    PE X (.Call (.Name "list" p) [.Call (.Name "range" p2) [a] [] pos2] [] pos) (T g E (eRgM1 ma)) :=
  PE.imp (pe_listRg hc hg hm (prg_1 hg2 hm2 ha na) nb) fun σ H Q ⟨L, σd, S, rp, sl, ev⟩ => ⟨L, σd, S, rp, sl, ev.step fun d S1 L1 H1 x1 r1 ev1 v dn => by
    split at ev1
    · rename_i n
      cases den_int dn
      split at ev1
      · rename_i hr
        exact ⟨n, rfl, hr, fin_lstM r1 ev1 (rg_dens 0 n)⟩
      · exact ev1.elim
    · exact ev1.elim⟩
end
end DL
end
section
namespace DL
open PySem PySem.Spec PyProof.Rows L2

/-! ### plain reasoning about the readings -/
@[simp] theorem noRef_pd (x : PyData) : noRef (.pd x) = true := rfl
@[simp] theorem noRef_glob (x : Str) : noRef (.glob x) = true := rfl
@[simp] theorem refsOf_nil : refsOf [] = [] := rfl
@[simp] theorem refsOf_pd (x : PyData) (r : List D) : refsOf (.pd x :: r) = refsOf r := rfl
@[simp] theorem refsOf_ref (n : Nat) (r : List D) : refsOf (.ref n :: r) = n :: refsOf r := rfl
@[simp] theorem renum_nil (k : Nat) : renum k [] = [] := rfl
@[simp] theorem renum_pd (k : Nat) (x : PyData) (r : List D) : renum k (.pd x :: r) = .pd x :: renum k r := rfl
@[simp] theorem renum_ref (k n : Nat) (r : List D) : renum k (.ref n :: r) = .ref k :: renum (k + 1) r := rfl
@[simp] theorem obsAt_nil (S : Sto) : obsAt S [] = some [] := rfl
@[simp] theorem putAll_nil (S os : Sto) : putAll S [] os = S := by cases os <;> rfl
@[simp] theorem frz_pd (k : Nat) (S : Sto) (x : PyData) : frz k S (.pd x) = some (.pd x) := rfl
@[simp] theorem pdL_nil : pdL [] = some [] := rfl
@[simp] theorem pdL_cons (x : PyData) (r : List D) : pdL (.pd x :: r) = (pdL r).map (x :: ·) := rfl
/-- a call on data alone -/
theorem callF_pd {n : Nat} {f : DF} {ds : List D} {d : D} (h : f ds [] = .ok d []) (hd : refsOf ds = []) (hr : renum 0 ds = ds) (hn : ds.length = n) (hnr : noRef d = true) (σ : Sl) (S : Sto) : callF n f ds σ S = .ok d S := by
  unfold callF
  rw [hd]
  simp only [obsAt_nil, hr, h]
  simp [hn, hnr]
/-- .. with one object handed in, in the first place -/
theorem callF_ref {n : Nat} {f : DF} {ds : List D} {d : D} {p : Nat} {ob ob' : Ob} {S : Sto} (hp : S[p]? = some ob) (hob : pdOb ob = true) (hd : refsOf ds = [p]) (h : f (renum 0 ds) [ob] = .ok d [ob']) (hn : ds.length = n) (hnr : noRef d = true) (hob' : pdOb ob' = true) (σ : Sl) : callF n f ds σ S = .ok d (S.set p ob') := by
  unfold callF
  rw [hd]
  have e : obsAt S [p] = some [ob] := by simp [obsAt, hp]
  simp only [e, h]
  rw [if_pos ⟨hn, by simp, by simp [hob]⟩, if_pos ⟨rfl, hnr, by simp [hob']⟩]
  simp [putAll]
/-! ### the readings applied -/
section
variable {α β : Type} (σ : Sl) (S : Sto)
@[simp] theorem mBind_app (m : DM α) (f : α → DM β) : mBind m f σ S = (m σ S).bind fun a S' => f a σ S' := rfl
@[simp] theorem mRet_app (a : α) : mRet a σ S = .ok a S := rfl
theorem eVar_app (i : Nat) : eVar i σ S = (match σ[i]? with | some (some d) => .ok d S | _ => .stuck) := rfl
@[simp] theorem eVar_0 (x : D) (r : Sl) : eVar 0 (some x :: r) S = .ok x S := rfl
@[simp] theorem eVar_1 (a0 : Option D) (x : D) (r : Sl) : eVar 1 (a0 :: some x :: r) S = .ok x S := rfl
@[simp] theorem eVar_2 (a0 a1 : Option D) (x : D) (r : Sl) : eVar 2 (a0 :: a1 :: some x :: r) S = .ok x S := rfl
@[simp] theorem eVar_3 (a0 a1 a2 : Option D) (x : D) (r : Sl) : eVar 3 (a0 :: a1 :: a2 :: some x :: r) S = .ok x S := rfl
@[simp] theorem eVar_4 (a0 a1 a2 a3 : Option D) (x : D) (r : Sl) : eVar 4 (a0 :: a1 :: a2 :: a3 :: some x :: r) S = .ok x S := rfl
@[simp] theorem eVar_5 (a0 a1 a2 a3 a4 : Option D) (x : D) (r : Sl) : eVar 5 (a0 :: a1 :: a2 :: a3 :: a4 :: some x :: r) S = .ok x S := rfl
@[simp] theorem eVar_6 (a0 a1 a2 a3 a4 a5 : Option D) (x : D) (r : Sl) : eVar 6 (a0 :: a1 :: a2 :: a3 :: a4 :: a5 :: some x :: r) S = .ok x S := rfl
@[simp] theorem eVar_7 (a0 a1 a2 a3 a4 a5 a6 : Option D) (x : D) (r : Sl) : eVar 7 (a0 :: a1 :: a2 :: a3 :: a4 :: a5 :: a6 :: some x :: r) S = .ok x S := rfl
@[simp] theorem eVar_8 (a0 a1 a2 a3 a4 a5 a6 a7 : Option D) (x : D) (r : Sl) : eVar 8 (a0 :: a1 :: a2 :: a3 :: a4 :: a5 :: a6 :: a7 :: some x :: r) S = .ok x S := rfl
@[simp] theorem eVar_9 (a0 a1 a2 a3 a4 a5 a6 a7 a8 : Option D) (x : D) (r : Sl) : eVar 9 (a0 :: a1 :: a2 :: a3 :: a4 :: a5 :: a6 :: a7 :: a8 :: some x :: r) S = .ok x S := rfl
@[simp] theorem eVar_10 (a0 a1 a2 a3 a4 a5 a6 a7 a8 a9 : Option D) (x : D) (r : Sl) : eVar 10 (a0 :: a1 :: a2 :: a3 :: a4 :: a5 :: a6 :: a7 :: a8 :: a9 :: some x :: r) S = .ok x S := rfl
@[simp] theorem eK_app (d : D) : eK d σ S = .ok d S := rfl
@[simp] theorem eOp_app (op : D → D → Sto → Out D) (a b : DM D) : eOp op a b σ S = (a σ S).bind fun x S1 => (b σ S1).bind fun y S2 => op x y S2 := rfl
@[simp] theorem asB_bl (b : Bool) : asB (.pd (.bool b)) σ S = .ok b S := rfl
@[simp] theorem eTest_app (m : DM D) : eTest m σ S = (m σ S).bind fun d S' => asB d σ S' := rfl
@[simp] theorem tru_bl (b : Bool) : tru (.pd (.bool b)) σ S = .ok b S := rfl
@[simp] theorem eTru_app (m : DM D) : eTru m σ S = (m σ S).bind fun d S' => tru d σ S' := rfl
@[simp] theorem eChain_app (op op' : D → D → Sto → Out D) (a b c : DM D) : eChain op op' a b c σ S = (a σ S).bind fun x S1 => (b σ S1).bind fun y S2 => ((op x y S2).bind fun d S3 => asB d σ S3).bind fun k S3 => if k = true then (c σ S3).bind fun z S4 => op' y z S4 else .ok (.bl false) S3 := by
  unfold eChain
  simp only [mBind_app]
  congr; funext x S1; congr; funext y S2; congr; funext k S3
  cases k <;> rfl
@[simp] theorem bNot_app (m : DM Bool) : bNot m σ S = (m σ S).bind fun k S' => .ok (!k) S' := rfl
@[simp] theorem bAnd_app (m n : DM Bool) : bAnd m n σ S = (m σ S).bind fun k S' => if k = true then n σ S' else .ok false S' := by
  unfold bAnd; simp only [mBind_app]; congr; funext k S'; cases k <;> rfl
@[simp] theorem bOr_app (m n : DM Bool) : bOr m n σ S = (m σ S).bind fun k S' => if k = true then .ok true S' else n σ S' := by
  unfold bOr; simp only [mBind_app]; congr; funext k S'; cases k <;> rfl
@[simp] theorem eNot_app (m : DM D) : eNot m σ S = ((m σ S).bind fun d S' => tru d σ S').bind fun k S' => .ok (.bl (!k)) S' := rfl
@[simp] theorem eAnd_app (m n : DM D) : eAnd m n σ S = (m σ S).bind fun x S1 => (tru x σ S1).bind fun k S2 => if k = true then n σ S2 else .ok x S2 := by
  unfold eAnd; simp only [mBind_app]; congr; funext x S1; congr; funext k S2; cases k <;> rfl
@[simp] theorem eOr_app (m n : DM D) : eOr m n σ S = (m σ S).bind fun x S1 => (tru x σ S1).bind fun k S2 => if k = true then .ok x S2 else n σ S2 := by
  unfold eOr; simp only [mBind_app]; congr; funext x S1; congr; funext k S2; cases k <;> rfl
@[simp] theorem eIf_app (t : DM Bool) (m n : DM D) : eIf t m n σ S = (t σ S).bind fun k S' => if k = true then m σ S' else n σ S' := by
  unfold eIf; simp only [mBind_app]; congr; funext k S'; cases k <;> rfl
@[simp] theorem eUn_app (op : D → Sto → Out D) (m : DM D) : eUn op m σ S = (m σ S).bind fun x S' => op x S' := rfl
@[simp] theorem lNil_app : lNil σ S = .ok [] S := rfl
@[simp] theorem lCons_app (m : DM D) (n : DM (List D)) : lCons m n σ S = (m σ S).bind fun x S1 => (n σ S1).bind fun xs S2 => .ok (x :: xs) S2 := rfl
@[simp] theorem eTup_app (m : DM (List D)) : eTup m σ S = (m σ S).bind fun ds S' => mkTup ds σ S' := rfl
@[simp] theorem eLst_app (m : DM (List D)) : eLst m σ S = (m σ S).bind fun ds S' => mkLst ds σ S' := rfl
@[simp] theorem eLstM_app (m : DM (List D)) : eLstM m σ S = (m σ S).bind fun ds S' => mkLstM ds σ S' := rfl
@[simp] theorem eCall_app (op : LF) (m : DM (List D)) : eCall op m σ S = (m σ S).bind fun ds S' => op ds S' := rfl
@[simp] theorem eSlice_app (m : DM D) (lo hi : DM (Option Int)) : eSlice m lo hi σ S = (m σ S).bind fun d S1 => (lo σ S1).bind fun l S2 => (hi σ S2).bind fun u S3 => slD S3 d l u := rfl
@[simp] theorem asI_int (i : Int) : asI (.pd (.int i)) σ S = .ok (some i) S := rfl
@[simp] theorem eMeth_app (t : String) (op : MF) (mo : DM D) (ml : DM (List D)) : eMeth t op mo ml σ S = (mo σ S).bind fun d S1 => if tyD S1 d = some t then (ml σ S1).bind fun ds S2 => op d ds S2 else .stuck := rfl
@[simp] theorem sNext_app : sNext σ S = .ok (.next σ) S := rfl
@[simp] theorem sNever_app : sNever σ S = .stuck := rfl
@[simp] theorem sBrk_app : sBrk σ S = .ok (.brk σ) S := rfl
@[simp] theorem sCont_app : sCont σ S = .ok (.cont σ) S := rfl
@[simp] theorem sSeq_app (a b : DM Fl) : sSeq a b σ S = (a σ S).bind fun f S' => (match f with | .next σ' => b σ' S' | f => .ok f S') := rfl
@[simp] theorem sSet_app (i : Nat) (m : DM D) : sSet i m σ S = (m σ S).bind fun d S' => .ok (.next (σ.set i (some d))) S' := rfl
@[simp] theorem sExpr_app (m : DM D) : sExpr m σ S = (m σ S).bind fun _ S' => .ok (.next σ) S' := rfl
@[simp] theorem sRet_app (m : DM D) : sRet m σ S = (m σ S).bind fun d S' => .ok (.ret d) S' := rfl
@[simp] theorem sRetN_app : sRetN σ S = .ok (.ret .non) S := rfl
@[simp] theorem sIf_app (c : DM Bool) (a b : DM Fl) : sIf c a b σ S = (c σ S).bind fun k S' => if k = true then a σ S' else b σ S' := rfl
@[simp] theorem sAsg_app (t : TgD) (m : DM D) : sAsg t m σ S = (m σ S).bind fun d S' => (match t d σ with | some σ' => .ok (.next σ') S' | none => .stuck) := rfl
@[simp] theorem eRg1_app (tup : Bool) (m : DM D) : eRg1 tup m σ S = (m σ S).bind fun d S' => (match d with | .pd (.int n) => kRg tup 0 n S' | _ => .stuck) := rfl
@[simp] theorem eIsI_app (t : TyN) (m : DM D) : eIsI t m σ S = (m σ S).bind fun d S' => (match isTy S' t d with | some b => .ok (.bl b) S' | none => .stuck) := rfl
@[simp] theorem opAdd_int (i j : Int) : opAdd (.pd (.int i)) (.pd (.int j)) S = .ok (.int (i + j)) S := rfl
@[simp] theorem opSub_int (i j : Int) : opSub (.pd (.int i)) (.pd (.int j)) S = .ok (.int (i - j)) S := rfl
@[simp] theorem opCmpI_int (f : Int → Int → Bool) (i j : Int) : opCmpI f (.pd (.int i)) (.pd (.int j)) S = .ok (.bl (f i j)) S := rfl
@[simp] theorem opLt_int (i j : Int) : opLt (.pd (.int i)) (.pd (.int j)) S = .ok (.bl (decide (i < j))) S := rfl
@[simp] theorem tgName_app (i : Nat) (d : D) : tgName i d σ = some (σ.set i (some d)) := rfl
@[simp] theorem tgNil_app : tgNil [] σ = some σ := rfl
@[simp] theorem tgCons_app (t : TgD) (u : TgsD) (d : D) (r : List D) : tgCons t u (d :: r) σ = (t d σ).bind (u r) := rfl
@[simp] theorem tgTup_app (t : TgsD) (ds : List PyData) : tgTup t (.pd (.tuple ds)) σ = t (ds.map .pd) σ := rfl
@[simp] theorem clr_nil' : clr [] σ = σ := rfl
@[simp] theorem clr_cons' (i : Nat) (r : List Nat) : clr (i :: r) σ = (clr r σ).set i none := rfl
end
theorem okEq_int (i : Int) : okEq (.int i) = true := by unfold okEq SeqAt.shaped; simp [PyData.canLay0, PyData.depth]
theorem opEq_int (ne : Bool) (i j : Int) (S : Sto) : opEq ne (.pd (.int i)) (.pd (.int j)) S = .ok (.bl (decide (i = j) ^^ ne)) S := by
  show opEq0 ne (.pd (.int i)) (.pd (.int j)) S = _
  unfold opEq0
  simp only [view, okEq_int, Bool.and_self, if_true]
  congr 2
/-- a def's result from its body's -/
theorem runF_pure {n : Nat} {m : DM Fl} {ds : List D} {x : PyData} {S' : Sto} (h : m (startD n ds) [] = .ok (.ret (.pd x)) S') : runF n m ds [] = .ok (.pd x) [] := by
  unfold runF
  simp [h, fin]
theorem runF_next {n : Nat} {m : DM Fl} {ds : List D} {σ : Sl} {S' : Sto} (h : m (startD n ds) [] = .ok (.next σ) S') : runF n m ds [] = .ok .non [] := by
  unfold runF
  simp [h, fin]
theorem runF_retL {n : Nat} {m : DM Fl} {ds : List D} {k : Nat} {xs : List PyData} {S' : Sto} (h : m (startD n ds) [] = .ok (.ret (.ref k)) S') (hk : S'[k]? = some (.lst (xs.map .pd))) : runF n m ds [] = .ok (.lst xs) [] := by
  unfold runF
  simp [h, fin, frz, hk]
/-- what a reading comes to -/
def Sat {α : Type} (o : Out α) (P : α → Sto → Prop) : Prop := ∃ a S, o = .ok a S ∧ P a S
theorem Sat.ok {α : Type} {a : α} {S : Sto} {P : α → Sto → Prop} (h : P a S) : Sat (.ok a S) P := ⟨a, S, rfl, h⟩
theorem Sat.bind {α β : Type} {m : Out α} {f : α → Sto → Out β} {P : α → Sto → Prop} {Q : β → Sto → Prop} (h : Sat m P) (k : ∀ a S, P a S → Sat (f a S) Q) : Sat (m.bind f) Q := by
  obtain ⟨a, S, rfl, p⟩ := h
  exact k a S p
theorem Sat.imp {α : Type} {o : Out α} {P Q : α → Sto → Prop} (h : Sat o P) (k : ∀ a S, P a S → Q a S) : Sat o Q := by
  obtain ⟨a, S, e, p⟩ := h
  exact ⟨a, S, e, k a S p⟩
/-- for: an invariant over what is left -/
theorem forGo_sat {gu : Gu} {t : TgD} {body : DM Fl} {vs : List Nat} {P : Fl → Sto → Prop} (I : List D → Sl → Sto → Prop) (hg : ∀ l σ S, I l σ S → gu.ok S) (h0 : ∀ σ S, I [] σ S → P (.next σ) S)
    (hs : ∀ d r σ S, I (d :: r) σ S → ∃ σ1, t d σ = some σ1 ∧ Sat (body σ1 S) fun f S' => match f with
      | .next σ2 => I r (clr vs σ2) S'
      | .cont σ2 => I r (clr vs σ2) S'
      | .brk σ2 => P (.next (clr vs σ2)) S'
      | .ret d => P (.ret d) S') : ∀ (l : List D) (σ : Sl) (S : Sto), I l σ S → Sat (forGo gu t body vs l σ S) P := by
  intro l
  induction l with
  | nil =>
    intro σ S h
    unfold forGo
    rw [if_pos (hg _ _ _ h)]
    exact .ok (h0 σ S h)
  | cons d r ih =>
    intro σ S h
    unfold forGo
    rw [if_pos (hg _ _ _ h)]
    obtain ⟨σ1, e, f, S', eb, q⟩ := hs d r σ S h
    simp only [e, eb, Out.bind_ok]
    cases f with
    | next σ2 => exact ih _ _ q
    | cont σ2 => exact ih _ _ q
    | brk σ2 => exact .ok q
    | ret d => exact .ok q
/-- a comprehension whose test and element change nothing -/
theorem lcGo_pure {gu : Gu} {t : TgD} {tt : DM Bool} {te : DM D} {σ : Sl} {S : Sto} (hg : gu.ok S) (p : D → Bool) (f : D → D) : ∀ (l acc : List D), (∀ d ∈ l, ∃ σ1, t d σ = some σ1 ∧ tt σ1 S = .ok (p d) S ∧ (p d = true → te σ1 S = .ok (f d) S)) → acc.length + l.length ≤ sizeLine →
    lcGo gu t tt te l acc σ S = .ok (acc ++ (l.filter p).map f) S
  | [], acc, _, _ => by
    unfold lcGo
    rw [if_pos hg]
    simp
  | d :: r, acc, h, hl => by
    unfold lcGo
    rw [if_pos hg]
    obtain ⟨σ1, e1, e2, e3⟩ := h d List.mem_cons_self
    simp only [e1, e2, Out.bindN_ok]
    have hr : ∀ d ∈ r, ∃ σ1, t d σ = some σ1 ∧ tt σ1 S = .ok (p d) S ∧ (p d = true → te σ1 S = .ok (f d) S) := fun d hd => h d (List.mem_cons_of_mem _ hd)
    rw [List.length_cons] at hl
    cases hp : p d with
    | true =>
      rw [if_pos rfl, e3 hp]
      simp only [Out.bindN_ok]
      rw [if_pos (by omega), lcGo_pure hg p f r (acc ++ [f d]) hr (by rw [List.length_append, List.length_singleton]; omega)]
      simp [List.filter_cons, hp]
    | false =>
      rw [if_neg Bool.false_ne_true, lcGo_pure hg p f r acc hr (by omega)]
      simp [List.filter_cons, hp]
/-- a comprehension: an invariant over what is left and what is gathered -/
theorem lcGo_sat {gu : Gu} {t : TgD} {tt : DM Bool} {te : DM D} {σ : Sl} {P : List D → Sto → Prop} (I : List D → List D → Sto → Prop) (hg : ∀ l acc S, I l acc S → gu.ok S) (h0 : ∀ acc S, I [] acc S → P acc S)
    (hs : ∀ d r acc S, I (d :: r) acc S → ∃ σ1, t d σ = some σ1 ∧ Sat (tt σ1 S) fun b S1 => if b = true then Sat (te σ1 S1) fun y S2 => acc.length < sizeLine ∧ I r (acc ++ [y]) S2 else I r acc S1) :
    ∀ (l acc : List D) (S : Sto), I l acc S → Sat (lcGo gu t tt te l acc σ S) P := by
  intro l
  induction l with
  | nil =>
    intro acc S h
    unfold lcGo
    rw [if_pos (hg _ _ _ h)]
    exact .ok (h0 acc S h)
  | cons d r ih =>
    intro acc S h
    unfold lcGo
    rw [if_pos (hg _ _ _ h)]
    obtain ⟨σ1, e, b, S1, eb, q⟩ := hs d r acc S h
    simp only [e, eb, Out.bindN_ok]
    cases b with
    | true =>
      rw [if_pos rfl] at q
      rw [if_pos rfl]
      obtain ⟨y, S2, ey, hl, q⟩ := q
      simp only [ey, Out.bindN_ok]
      rw [if_pos hl]
      exact ih _ _ q
    | false =>
      rw [if_neg Bool.false_ne_true] at q
      rw [if_neg Bool.false_ne_true]
      exact ih _ _ q
end DL
end
section
namespace DL
open PySem PySem.Spec PyProof.Rows L2
section
variable {σ : Sl} {S : Sto}
theorem lcGo_map {α : Type} {gu : Gu} {t : TgD} {tt : DM Bool} {te : DM D} (hg : gu.ok S) (g : α → D) (P : α → Bool) (F : α → PyData) : ∀ (l : List α) (acc : List D), (∀ a ∈ l, ∃ σ1, t (g a) σ = some σ1 ∧ tt σ1 S = .ok (P a) S ∧ (P a = true → te σ1 S = .ok (.pd (F a)) S)) →
    acc.length + l.length ≤ sizeLine → lcGo gu t tt te (l.map g) acc σ S = .ok (acc ++ ((l.filter P).map fun a => .pd (F a))) S
  | [], acc, _, _ => by
    show lcGo gu t tt te [] acc σ S = _
    unfold lcGo
    rw [if_pos hg]
    simp
  | a :: r, acc, h, hl => by
    show lcGo gu t tt te (g a :: r.map g) acc σ S = _
    unfold lcGo
    rw [if_pos hg]
    obtain ⟨σ1, e1, e2, e3⟩ := h a List.mem_cons_self
    simp only [e1, e2, Out.bindN_ok]
    have hr := fun b hb => h b (List.mem_cons_of_mem _ hb)
    rw [List.length_cons] at hl
    cases hp : P a with
    | true =>
      rw [if_pos rfl, e3 hp]
      simp only [Out.bindN_ok]
      rw [if_pos (by omega), lcGo_map hg g P F r (acc ++ [D.pd (F a)]) hr (by rw [List.length_append, List.length_singleton]; omega)]
      simp [List.filter_cons, hp]
    | false =>
      rw [if_neg Bool.false_ne_true, lcGo_map hg g P F r acc hr (by omega)]
      simp [List.filter_cons, hp]
/-- a comprehension over data that changes nothing -/
theorem lcAll_map {α : Type} {vs : List Nat} {w : DM Wk} {gu : Gu} {t : TgD} {tt : DM Bool} {te : DM D} (l : List α) (g : α → D) (P : α → Bool) (F : α → PyData) (hw : w σ S = .ok ⟨l.map g, gu⟩ S) (hg : gu.ok S)
    (h : ∀ a ∈ l, ∃ σ1, t (g a) (clr vs σ) = some σ1 ∧ tt σ1 S = .ok (P a) S ∧ (P a = true → te σ1 S = .ok (.pd (F a)) S)) (hl : l.length ≤ sizeLine) : lcAll vs w t tt te σ S = .ok ((l.filter P).map fun a => .pd (F a)) S := by
  unfold lcAll
  rw [hw]
  show lcGo gu t tt te (l.map g) [] (clr vs σ) S = _
  rw [lcGo_map hg g P F l [] h (by simpa using hl)]
  simp
theorem mkF_map {α : Type} (l : List α) (F : α → PyData) : mkF (l.map fun a => .pd (F a)) σ S = .ok (.lst (l.map F)) S := by
  unfold mkF
  have : (l.map fun a => D.pd (F a)) = (l.map F).map .pd := by rw [List.map_map]; rfl
  rw [this, pdL_map]
theorem eLc_map {α : Type} {vs : List Nat} {w : DM Wk} {gu : Gu} {t : TgD} {tt : DM Bool} {te : DM D} (l : List α) (g : α → D) (P : α → Bool) (F : α → PyData) (hw : w σ S = .ok ⟨l.map g, gu⟩ S) (hg : gu.ok S)
    (h : ∀ a ∈ l, ∃ σ1, t (g a) (clr vs σ) = some σ1 ∧ tt σ1 S = .ok (P a) S ∧ (P a = true → te σ1 S = .ok (.pd (F a)) S)) (hl : l.length ≤ sizeLine) : eLc vs w t tt te σ S = .ok (.lst ((l.filter P).map F)) S := by
  unfold eLc
  rw [mBind_app, lcAll_map l g P F hw hg h hl, Out.bind_ok, mkF_map]
/-- .. without a test -/
theorem eLc_all {α : Type} {vs : List Nat} {w : DM Wk} {gu : Gu} {t : TgD} {te : DM D} (l : List α) (g : α → D) (F : α → PyData) (hw : w σ S = .ok ⟨l.map g, gu⟩ S) (hg : gu.ok S)
    (h : ∀ a ∈ l, ∃ σ1, t (g a) (clr vs σ) = some σ1 ∧ te σ1 S = .ok (.pd (F a)) S) (hl : l.length ≤ sizeLine) : eLc vs w t (mRet true) te σ S = .ok (.lst (l.map F)) S := by
  have := eLc_map (vs := vs) (w := w) (t := t) (tt := mRet true) (te := te) l g (fun _ => true) F hw hg (fun a ha => by
    obtain ⟨σ1, e1, e2⟩ := h a ha
    exact ⟨σ1, e1, rfl, fun _ => e2⟩) hl
  rw [this, List.filter_eq_self.mpr (fun _ _ => rfl)]
theorem iSeq_tup {m : DM D} {xs : List PyData} (h : m σ S = .ok (.tup xs) S) : iSeq m σ S = .ok ⟨xs.map .pd, .no⟩ S := by
  unfold iSeq; rw [mBind_app, h]; rfl
theorem iSeq_lst {m : DM D} {xs : List PyData} (h : m σ S = .ok (.lst xs) S) : iSeq m σ S = .ok ⟨xs.map .pd, .no⟩ S := by
  unfold iSeq; rw [mBind_app, h]; rfl
theorem iSeq_ref {m : DM D} {n : Nat} {xs : List D} (h : m σ S = .ok (.ref n) S) (hn : S[n]? = some (.lst xs)) : iSeq m σ S = .ok ⟨xs, .at n (.lst xs)⟩ S := by
  unfold iSeq; rw [mBind_app, h]
  simp [wkSeq, asQ, asL, guOf, hn]
theorem iRange1_nat {ml : DM (List D)} {n : Nat} (h : ml σ S = .ok [.int n] S) (hn : n ≤ 1000000) : iRange1 ml σ S = .ok ⟨(List.range n).map fun (i : Nat) => D.int i, .no⟩ S := by
  have hb : -(2 ^ 62) ≤ (n : Int) ∧ (n : Int) < 2 ^ 62 := by omega
  have e : rangeOf1 [.int n] σ S = .ok (wkRange 0 ((n : Int)).toNat) S := by
    unfold rangeOf1
    simp only [hb, and_self, if_true]
  unfold iRange1
  rw [mBind_app, h, Out.bind_ok, e, Int.toNat_natCast]
  have e2 : ((List.range n).map fun (i : Nat) => D.int (0 + (i : Int))) = (List.range n).map fun (i : Nat) => D.int i := List.map_congr_left fun i _ => by rw [Int.zero_add]
  unfold wkRange
  rw [e2]
theorem sFor_app (vs : List Nat) (w : DM Wk) (t : TgD) (body : DM Fl) : sFor vs w t body σ S = (w σ S).bind fun wk S' => forGo wk.gu t body vs wk.items (clr vs σ) S' := rfl
/-! ### while -/
theorem whileN_mono {c : DM Bool} {body : DM Fl} {vs : List Nat} : ∀ (n : Nat) {σ : Sl} {S : Sto}, whileN c body vs n σ S ≠ .stuck → ∀ k, whileN c body vs (n + k) σ S = whileN c body vs n σ S
  | 0, σ, S, h, k => absurd rfl h
  | n + 1, σ, S, h, k => by
    rw [show n + 1 + k = (n + k) + 1 by omega]
    unfold whileN at h ⊢
    cases e : c σ S with
    | ok b S1 =>
      rw [e] at h
      simp only [Out.bind_ok] at h ⊢
      cases b with
      | false => rfl
      | true =>
        simp only [if_true] at h ⊢
        cases e2 : body σ S1 with
        | ok f S2 =>
          rw [e2] at h
          simp only [Out.bind_ok] at h ⊢
          cases f with
          | next σ2 => exact whileN_mono n h k
          | cont σ2 => exact whileN_mono n h k
          | brk σ2 => rfl
          | ret d => rfl
        | exc _ _ _ => rfl
        | stuck => rfl
    | exc _ _ _ => rfl
    | stuck => rfl
theorem whileN_same {c : DM Bool} {body : DM Fl} {vs : List Nat} {n m : Nat} (h : whileN c body vs n σ S ≠ .stuck) (h' : whileN c body vs m σ S ≠ .stuck) : whileN c body vs n σ S = whileN c body vs m σ S := by
  rcases Nat.le_total n m with q | q
  · obtain ⟨k, rfl⟩ := Nat.exists_eq_add_of_le q
    exact (whileN_mono n h k).symm
  · obtain ⟨k, rfl⟩ := Nat.exists_eq_add_of_le q
    exact whileN_mono m h' k
theorem sWhile_of {c : DM Bool} {body : DM Fl} {vs : List Nat} {n : Nat} {P : Fl → Sto → Prop} (h : Sat (whileN c body vs n (clr vs σ) S) P) : Sat (sWhile vs c body σ S) P := by
  obtain ⟨f, S', e, p⟩ := h
  have ns : whileN c body vs n (clr vs σ) S ≠ .stuck := by rw [e]; intro z; cases z
  have hex : ∃ n, whileN c body vs n (clr vs σ) S ≠ .stuck := ⟨n, ns⟩
  unfold sWhile
  rw [dif_pos hex, whileN_same (Classical.choose_spec hex) ns, e]
  exact .ok p
/-- an invariant with a number that falls -/
theorem sWhile_sat {c : DM Bool} {body : DM Fl} {vs : List Nat} {P : Fl → Sto → Prop} (I : Nat → Sl → Sto → Prop)
    (hs : ∀ m σ S, I m σ S → Sat (c σ S) fun k S1 => if k = true then Sat (body σ S1) (fun f S2 => match f with
      | .next σ2 => ∃ m', m' < m ∧ I m' (clr vs σ2) S2
      | .cont σ2 => ∃ m', m' < m ∧ I m' (clr vs σ2) S2
      | .brk σ2 => P (.next (clr vs σ2)) S2
      | .ret d => P (.ret d) S2) else P (.next σ) S1) {m : Nat} (h : I m (clr vs σ) S) : Sat (sWhile vs c body σ S) P := by
  have go : ∀ m σ S, I m σ S → ∃ n, Sat (whileN c body vs n σ S) P := by
    intro m
    induction m using Nat.strongRecOn with
    | ind m ih =>
      intro σ S h
      obtain ⟨k, S1, ec, q⟩ := hs m σ S h
      cases k with
      | false =>
        refine ⟨1, ?_⟩
        unfold whileN
        rw [ec]
        exact .ok q
      | true =>
        obtain ⟨f, S2, eb, q⟩ := q
        cases f with
        | next σ2 =>
          obtain ⟨m', hm, hi⟩ := q
          obtain ⟨n, hn⟩ := ih m' hm _ _ hi
          refine ⟨n + 1, ?_⟩
          unfold whileN
          rw [ec]
          simp only [Out.bind_ok, if_true, eb]
          exact hn
        | cont σ2 =>
          obtain ⟨m', hm, hi⟩ := q
          obtain ⟨n, hn⟩ := ih m' hm _ _ hi
          refine ⟨n + 1, ?_⟩
          unfold whileN
          rw [ec]
          simp only [Out.bind_ok, if_true, eb]
          exact hn
        | brk σ2 =>
          refine ⟨1, ?_⟩
          unfold whileN
          rw [ec]
          simp only [Out.bind_ok, if_true, eb]
          exact .ok q
        | ret d =>
          refine ⟨1, ?_⟩
          unfold whileN
          rw [ec]
          simp only [Out.bind_ok, if_true, eb]
          exact .ok q
  obtain ⟨n, hn⟩ := go m _ _ h
  exact sWhile_of hn
/-! ### the built-ins on data -/
theorem fAll_lst (bs : List Bool) : fAll [.lst (bs.map .bool)] S = .ok (.bl (bs.all fun b => b)) S := by
  show (match blsOf S (.lst (bs.map .bool)) with | some bs => Out.ok (D.bl (bs.all fun b => b)) S | none => .stuck) = _
  have : blsOf S (.lst (bs.map .bool)) = some bs := by
    unfold blsOf asL
    dsimp only
    rw [pdL_map]
    exact blsL_map bs
  rw [this]
theorem fAll_map {α : Type} (l : List α) (P : α → Bool) : fAll [.lst (l.map fun a => .bool (P a))] S = .ok (.bl (l.all P)) S := by
  have := fAll_lst (S := S) (l.map P)
  rw [List.map_map] at this
  rw [show (fun a => PyData.bool (P a)) = (PyData.bool ∘ P) from rfl, this, List.all_map]
  rfl
@[simp] theorem fTuple_lst (xs : List PyData) : fTuple [.lst xs] S = .ok (.tup xs) S := by
  show (match asL S (.lst xs) with | some ys => (match pdL ys with | some zs => Out.ok (D.tup zs) S | none => .stuck) | none => .stuck) = _
  unfold asL
  dsimp only
  rw [pdL_map]
@[simp] theorem fLen_tup (xs : List PyData) : fLen [.tup xs] S = .ok (.int xs.length) S := by simp [fLen, asQ]
@[simp] theorem fLen_lst (xs : List PyData) : fLen [.lst xs] S = .ok (.int xs.length) S := by simp [fLen, asQ, asL]
theorem atI_nat {α : Type} {xs : List α} {i : Nat} (h : i < xs.length) : atI xs (i : Int) = xs[i]? := by
  unfold atI ixN
  rw [if_pos (by omega), if_pos (by omega)]
  simp
@[simp] theorem ofO_some {α : Type} (d : α) : ofO (some d) S = .ok d S := rfl
@[simp] theorem atI_0 {α : Type} (x : α) (r : List α) : atI (x :: r) 0 = some x := by
  have := atI_nat (xs := x :: r) (i := 0) (by simp)
  simpa using this
@[simp] theorem atI_1 {α : Type} (x y : α) (r : List α) : atI (x :: y :: r) 1 = some y := by
  have := atI_nat (xs := x :: y :: r) (i := 1) (by simp)
  simpa using this
@[simp] theorem atI_2 {α : Type} (x y z : α) (r : List α) : atI (x :: y :: z :: r) 2 = some z := by
  have := atI_nat (xs := x :: y :: z :: r) (i := 2) (by simp)
  simpa using this
theorem opIx_tup (xs : List PyData) (i : Int) : opIx (.tup xs) (.int i) S = ofO (atI (xs.map .pd) i) S := rfl
theorem opIx_lst (xs : List PyData) (i : Int) : opIx (.lst xs) (.int i) S = ofO (atI (xs.map .pd) i) S := rfl
theorem opIx_ref {n : Nat} {xs : List D} (h : S[n]? = some (.lst xs)) (i : Int) : opIx (.ref n) (.int i) S = ofO (atI xs i) S := by
  unfold opIx asQ asL
  simp [h]
theorem opIx_tupN {xs : List PyData} {i : Nat} {x : PyData} (h : xs[i]? = some x) : opIx (.tup xs) (.int i) S = .ok (.pd x) S := by
  have hl : i < (xs.map D.pd).length := by rw [List.length_map]; exact (List.getElem?_eq_some_iff.mp h).1
  rw [opIx_tup, atI_nat hl, List.getElem?_map, h]; rfl
theorem opIx_lstN {xs : List PyData} {i : Nat} {x : PyData} (h : xs[i]? = some x) : opIx (.lst xs) (.int i) S = .ok (.pd x) S := by
  have hl : i < (xs.map D.pd).length := by rw [List.length_map]; exact (List.getElem?_eq_some_iff.mp h).1
  rw [opIx_lst, atI_nat hl, List.getElem?_map, h]; rfl
theorem opIx_refN {n : Nat} {xs : List D} (hn : S[n]? = some (.lst xs)) {i : Nat} {x : D} (h : xs[i]? = some x) : opIx (.ref n) (.int i) S = .ok x S := by
  rw [opIx_ref hn, atI_nat (List.getElem?_eq_some_iff.mp h).1, h]; rfl
@[simp] theorem opIx_tup0 (x : PyData) (r : List PyData) : opIx (.tup (x :: r)) (.int 0) S = .ok (.pd x) S := by rw [opIx_tup]; simp
@[simp] theorem opIx_tup1 (x y : PyData) (r : List PyData) : opIx (.tup (x :: y :: r)) (.int 1) S = .ok (.pd y) S := by rw [opIx_tup]; simp
end
end DL
namespace DL
open PySem PySem.Spec PyProof.Rows L2
theorem sSeq_next {a b : DM Fl} {σ σ' : Sl} {S S' : Sto} (h : a σ S = .ok (.next σ') S') : sSeq a b σ S = b σ' S' := by rw [sSeq_app, h]; rfl
theorem sSet_ok {i : Nat} {m : DM D} {d : D} {σ : Sl} {S S' : Sto} (h : m σ S = .ok d S') : sSet i m σ S = .ok (.next (σ.set i (some d))) S' := by rw [sSet_app, h]; rfl
theorem sRet_ok {m : DM D} {d : D} {σ : Sl} {S S' : Sto} (h : m σ S = .ok d S') : sRet m σ S = .ok (.ret d) S' := by rw [sRet_app, h]; rfl
theorem eCall1_ok {f : LF} {m : DM D} {d d' : D} {σ : Sl} {S S' S2 : Sto} (h : m σ S = .ok d S') (hf : f [d] S' = .ok d' S2) : eCall f (lCons m lNil) σ S = .ok d' S2 := by
  rw [eCall_app, lCons_app, h]; exact hf
theorem call1_ok {n : Nat} {f : DF} {m : DM D} {d d' : D} {σ : Sl} {S S' S2 : Sto} (h : m σ S = .ok d S') (hf : callF n f [d] σ S' = .ok d' S2) : mBind (lCons m lNil) (callF n f) σ S = .ok d' S2 := by
  rw [mBind_app, lCons_app, h]; exact hf
end DL
namespace DL
open PySem PySem.Spec PyProof.Rows L2
theorem sExpr_ok {m : DM D} {d : D} {σ : Sl} {S S' : Sto} (h : m σ S = .ok d S') : sExpr m σ S = .ok (.next σ) S' := by rw [sExpr_app, h]; rfl
theorem call2_ok {n : Nat} {f : DF} {m m2 : DM D} {d e d' : D} {σ : Sl} {S S' S2 S3 : Sto} (h : m σ S = .ok d S') (h2 : m2 σ S' = .ok e S2) (hf : callF n f [d, e] σ S2 = .ok d' S3) : mBind (lCons m (lCons m2 lNil)) (callF n f) σ S = .ok d' S3 := by
  rw [mBind_app, lCons_app, h, Out.bind_ok, lCons_app, h2]; exact hf
theorem call3_ok {n : Nat} {f : DF} {m m2 m3 : DM D} {d e e3 d' : D} {σ : Sl} {S S' S2 S3 S4 : Sto} (h : m σ S = .ok d S') (h2 : m2 σ S' = .ok e S2) (h3 : m3 σ S2 = .ok e3 S3) (hf : callF n f [d, e, e3] σ S3 = .ok d' S4) : mBind (lCons m (lCons m2 (lCons m3 lNil))) (callF n f) σ S = .ok d' S4 := by
  rw [mBind_app, lCons_app, h, Out.bind_ok, lCons_app, h2, Out.bind_ok, lCons_app, h3]; exact hf
theorem eOp_ok {op : D → D → Sto → Out D} {m m2 : DM D} {d e d' : D} {σ : Sl} {S S' S2 S3 : Sto} (h : m σ S = .ok d S') (h2 : m2 σ S' = .ok e S2) (hf : op d e S2 = .ok d' S3) : eOp op m m2 σ S = .ok d' S3 := by
  rw [eOp_app, h, Out.bind_ok, h2]; exact hf
theorem eTup1_ok {m : DM D} {x : PyData} {σ : Sl} {S S' : Sto} (h : m σ S = .ok (.pd x) S') : eTup (lCons m lNil) σ S = .ok (.tup [x]) S' := by
  rw [eTup_app, lCons_app, h]
  show mkTup [.pd x] σ S' = _
  unfold mkTup
  simp only [pdL_cons, pdL_nil, Option.map_some]
  rw [if_pos (by rw [sizeLine_eq]; simp)]
end DL
namespace DL
open PySem PySem.Spec PyProof.Rows L2
/-- for i in range(n): what stands at each turn -/
theorem forGo_range {i : Nat} {body : DM Fl} {vs : List Nat} {P : Fl → Sto → Prop} (n : Nat) (I : Nat → Sl → Sto → Prop)
    (hs : ∀ j σ S, j < n → I j σ S → Sat (body (σ.set i (some (.int j))) S) fun f S' => match f with
      | .next σ2 => I (j + 1) (clr vs σ2) S'
      | .cont σ2 => I (j + 1) (clr vs σ2) S'
      | .brk σ2 => P (.next (clr vs σ2)) S'
      | .ret d => P (.ret d) S') (h0 : ∀ σ S, I n σ S → P (.next σ) S) {σ : Sl} {S : Sto} (h : I 0 σ S) : Sat (forGo .no (tgName i) body vs ((List.range n).map fun (j : Nat) => D.int j) σ S) P := by
  have go : ∀ k j σ S, j + k = n → I j σ S → Sat (forGo .no (tgName i) body vs ((List.range' j k).map fun (j : Nat) => D.int j) σ S) P := by
    intro k
    induction k with
    | zero =>
      intro j σ S e h
      show Sat (forGo .no (tgName i) body vs [] σ S) P
      unfold forGo
      rw [if_pos (by exact trivial)]
      have : j = n := by omega
      subst this
      exact .ok (h0 σ S h)
    | succ k ih =>
      intro j σ S e h
      show Sat (forGo .no (tgName i) body vs (.int j :: (List.range' (j + 1) k).map fun (j : Nat) => D.int j) σ S) P
      unfold forGo
      rw [if_pos (by exact trivial)]
      obtain ⟨f, S', eb, q⟩ := hs j σ S (by omega) h
      simp only [tgName_app, eb, Out.bind_ok]
      cases f with
      | next σ2 => exact ih (j + 1) _ _ (by omega) q
      | cont σ2 => exact ih (j + 1) _ _ (by omega) q
      | brk σ2 => exact .ok q
      | ret d => exact .ok q
  rw [List.range_eq_range']
  exact go n 0 σ S (by omega) h
theorem opEq_ex (ne : Bool) {x y : PyData} (hx : okEq x = true) (hy : okEq y = true) (S : Sto) (hn : ∀ i, x ≠ .str i := by intro i h; cases h) : opEq ne (.pd x) (.pd y) S = .ok (.bl (PyData.eqv x y ^^ ne)) S := by
  have e : opEq ne (.pd x) (.pd y) S = opEq0 ne (.pd x) (.pd y) S := by
    cases x with
    | str i => exact absurd rfl (hn i)
    | _ => rfl
  rw [e]
  unfold opEq0
  simp only [view, hx, hy, Bool.and_self, if_true]
theorem mkTup2 (x y : PyData) (σ : Sl) (S : Sto) : mkTup [.pd x, .pd y] σ S = .ok (.tup [x, y]) S := by
  unfold mkTup
  simp only [pdL_cons, pdL_nil, Option.map_some]
  rw [if_pos (by rw [sizeLine_eq]; simp)]
theorem mkLst1 (x : PyData) (σ : Sl) (S : Sto) : mkLst [.pd x] σ S = .ok (.lst [x]) S := by
  unfold mkLst
  simp only [pdL_cons, pdL_nil, Option.map_some]
  rw [if_pos (by rw [sizeLine_eq]; simp)]
theorem mul_bit (x : PyData) (k : Bool) (S : Sto) : opMul2 (.lst [x]) (.int (if k = true then 1 else 0)) S = .ok (.lst (if k = true then [x] else [])) S := by
  have e : ∀ i : Int, opMul2 (.lst [x]) (.int i) S = if -(2 ^ 63) ≤ i ∧ i < 2 ^ 63 ∧ [x].length * i.toNat ≤ sizeLine then .ok (.lst (List.replicate i.toNat [x]).flatten) S else .stuck := fun i => rfl
  rw [e]
  cases k with
  | true =>
    rw [if_pos ⟨by decide, by decide, by rw [sizeLine_eq]; simp⟩]
    rfl
  | false =>
    rw [if_pos ⟨by decide, by decide, by simp⟩]
    rfl
end DL
end
section
namespace DL
open PySem PySem.Spec PyProof.Rows L2
/-! ### how long a repr is -/
mutual
def wt : PyData → Nat
  | .none => 5
  | .bool _ => 5
  | .int _ => 12
  | .str _ => 0
  | .list xs => wtAll xs + 3
  | .tuple xs => wtAll xs + 3
  | .dict _ => 0
def wtAll : List PyData → Nat
  | [] => 0
  | x :: xs => wt x + 2 + wtAll xs
end
mutual
/-- none, truths, ints of at most ten figures, rows of these -/
def small : PyData → Bool
  | .none => true
  | .bool _ => true
  | .int i => decide (0 ≤ i) && decide (i < 10 ^ 10)
  | .str _ => false
  | .list xs => smallAll xs
  | .tuple xs => smallAll xs
  | .dict _ => false
def smallAll : List PyData → Bool
  | [] => true
  | x :: xs => small x && smallAll xs
end
mutual
theorem small_shown : ∀ d : PyData, small d = true → d.shown.length ≤ wt d ∧ d.showable = true ∧ d.hasDict = false
  | .none, _ => ⟨by show (("None" : Str)).length ≤ 5; decide, rfl, rfl⟩
  | .bool true, _ => ⟨by show (("True" : Str)).length ≤ 5; decide, rfl, rfl⟩
  | .bool false, _ => ⟨by show (("False" : Str)).length ≤ 5; decide, rfl, rfl⟩
  | .int i, h => by
    unfold small at h
    rw [Bool.and_eq_true, decide_eq_true_eq, decide_eq_true_eq] at h
    refine ⟨?_, ?_, rfl⟩
    · have := PySem.W.KT.len_num h.1 h.2
      show (Str.ofString (toString i)).length ≤ 12
      omega
    · unfold PyData.showable
      apply decide_eq_true
      have h2 : i.natAbs < 2 ^ 64 := by omega
      by_cases h0 : i.natAbs = 0
      · rw [h0]; decide
      · exact Nat.lt_trans ((Nat.log2_lt h0).mpr h2) (by decide)
  | .str _, h => by simp [small] at h
  | .dict _, h => by simp [small] at h
  | .list xs, h => by
    obtain ⟨h1, h2, h3, h4⟩ := small_all xs (by simpa [small] using h)
    refine ⟨?_, by simpa [PyData.showable] using h2, by simpa [PyData.hasDict] using h3⟩
    have := listText_len_le (PyData.shownAll xs)
    show (listText (PyData.shownAll xs)).length ≤ wtAll xs + 3
    omega
  | .tuple xs, h => by
    obtain ⟨h1, h2, h3, h4⟩ := small_all xs (by simpa [small] using h)
    refine ⟨?_, by simpa [PyData.showable] using h2, by simpa [PyData.hasDict] using h3⟩
    have := tupleText_len_le (PyData.shownAll xs)
    show (tupleText (PyData.shownAll xs)).length ≤ wtAll xs + 3
    omega
theorem small_all : ∀ xs : List PyData, smallAll xs = true → ((PyData.shownAll xs).map (·.length)).sum + 2 * (PyData.shownAll xs).length ≤ wtAll xs ∧ PyData.showableAll xs = true ∧ PyData.hasDictAll xs = false ∧ True
  | [], _ => ⟨Nat.le_refl _, rfl, rfl, trivial⟩
  | x :: xs, h => by
    unfold smallAll at h
    rw [Bool.and_eq_true] at h
    obtain ⟨a1, a2, a3⟩ := small_shown x h.1
    obtain ⟨b1, b2, b3, _⟩ := small_all xs h.2
    refine ⟨?_, by rw [PyData.showableAll, a2, b2]; rfl, by rw [PyData.hasDictAll, a3, b3]; rfl, trivial⟩
    rw [PyData.shownAll, List.map_cons, List.sum_cons, List.length_cons, wtAll]
    omega
end
theorem reprOk_small {d : PyData} (h : small d = true) (hd : d.depth ≤ 60) (hw : wt d ≤ 1000000) : reprOk d = true := by
  obtain ⟨h1, h2, h3⟩ := small_shown d h
  unfold reprOk
  rw [h2, h3, decide_eq_true hd, decide_eq_true (show d.shown.length ≤ sizeLine by rw [sizeLine_eq]; omega)]
  rfl
theorem fRepr_pd {d : PyData} (h : reprOk d = true) (S : Sto) : fRepr [.pd d] S = .ok (.str d.shown) S := by
  unfold fRepr
  simp only [view, h, if_true]
theorem neStr (x : Str) (S : Sto) : opEq true (.str x) (.str x) S = .ok (.bl false) S := by
  show Out.ok (D.bl (decide (x = x) ^^ true)) S = _
  simp
theorem eqStr (x : Str) (S : Sto) : opEq false (.str x) (.str x) S = .ok (.bl true) S := by
  show Out.ok (D.bl (decide (x = x) ^^ false)) S = _
  simp
/-- repr(a) != repr(b), of the same data -/
theorem neRepr {a b : DM D} {d : PyData} {σ : Sl} {S S1 S2 : Sto} (h : reprOk d = true) (ha : a σ S = .ok (.pd d) S1) (hb : b σ S1 = .ok (.pd d) S2) : eTest (eOp (opEq true) (eCall fRepr (lCons a lNil)) (eCall fRepr (lCons b lNil))) σ S = .ok false S2 := by
  rw [eTest_app, eOp_ok (eCall1_ok ha (fRepr_pd h S1)) (eCall1_ok hb (fRepr_pd h S2)) (neStr _ S2)]
  rfl
end DL
end
section
/-! plain graphs: fewest steps by a queue, by putting right again and again -/
namespace PG
open Classical
section
variable {A : Nat → Nat → Prop} {src : Nat → Prop}
/-- within so many steps of a source -/
def ball (A : Nat → Nat → Prop) (src : Nat → Prop) : Nat → Nat → Prop
  | 0, v => src v
  | k + 1, v => ball A src k v ∨ ∃ u, ball A src k u ∧ A u v
theorem ball_mono {k m v : Nat} (h : ball A src k v) (hm : k ≤ m) : ball A src m v := by
  induction hm with
  | refl => exact h
  | step _ ih => exact .inl ih
theorem ball_step {k u v : Nat} (h : ball A src k u) (a : A u v) : ball A src (k + 1) v := .inr ⟨u, h, a⟩
theorem ball_lt {n : Nat} (hs : ∀ v, src v → v < n) (ha : ∀ u v, A u v → v < n) : ∀ {k v : Nat}, ball A src k v → v < n
  | 0, v, h => hs v h
  | k + 1, v, h => h.elim (fun h => ball_lt hs ha h) fun ⟨u, _, a⟩ => ha u v a
/-- the fewest steps -/
def IsDist (A : Nat → Nat → Prop) (src : Nat → Prop) (v d : Nat) : Prop := ball A src d v ∧ ∀ k, ball A src k v → d ≤ k
theorem IsDist.uniq {v d e : Nat} (h : IsDist A src v d) (h' : IsDist A src v e) : d = e := Nat.le_antisymm (h.2 _ h'.1) (h'.2 _ h.1)
theorem exists_dist {v k : Nat} (h : ball A src k v) : ∃ d, IsDist A src v d := by
  induction k with
  | zero => exact ⟨0, h, fun _ _ => Nat.zero_le _⟩
  | succ k ih =>
    by_cases h' : ball A src k v
    · exact ih h'
    · exact ⟨k + 1, h, fun m hm => Nat.not_lt.mp fun hlt => h' (ball_mono hm (by omega))⟩
/-! counting -/
theorem countP_lt {p q : Nat → Bool} : ∀ {l : List Nat}, (∀ x ∈ l, q x = true → p x = true) → (∃ x ∈ l, p x = true ∧ q x = false) → l.countP q < l.countP p
  | [], _, ⟨x, hx, _⟩ => by cases hx
  | a :: l, h, ⟨x, hx, hp, hq⟩ => by
    have hl : l.countP q ≤ l.countP p := List.countP_mono_left fun y hy => h y (List.mem_cons_of_mem _ hy)
    rw [List.countP_cons, List.countP_cons]
    rcases List.mem_cons.mp hx with rfl | hx
    · rw [hp, hq]; simp; omega
    · have := countP_lt (l := l) (fun y hy => h y (List.mem_cons_of_mem _ hy)) ⟨x, hx, hp, hq⟩
      have ha := h a List.mem_cons_self
      cases e1 : q a <;> cases e2 : p a <;> simp <;> first | omega | (rw [e1, e2] at ha; simp at ha)
/-- who is reached is reached within n steps -/
theorem ball_n {n : Nat} (hs : ∀ v, src v → v < n) (ha : ∀ u v, A u v → v < n) {k v : Nat} (h : ball A src k v) : ball A src n v := by
  let c : Nat → Nat := fun k => (List.range n).countP fun v => decide (ball A src k v)
  have stab : ∀ k, (∀ v, ball A src (k + 1) v → ball A src k v) → ∀ m v, ball A src (k + m) v → ball A src k v := by
    intro k hk m
    induction m with
    | zero => exact fun v h => h
    | succ m ih =>
      intro v h
      rcases h with h | ⟨u, h, a⟩
      · exact ih v h
      · exact hk v (ball_step (ih u h) a)
  by_cases hx : ∃ j, j ≤ n ∧ ∀ v, ball A src (j + 1) v → ball A src j v
  · obtain ⟨j, hj, st⟩ := hx
    refine ball_mono ?_ hj
    rcases Nat.le_total k j with q | q
    · exact ball_mono h q
    · exact stab j st (k - j) v (by rw [show j + (k - j) = k by omega]; exact h)
  · exfalso
    have inc : ∀ j, j ≤ n → c j < c (j + 1) := fun j hj => by
      have : ∃ v, ball A src (j + 1) v ∧ ¬ ball A src j v := by
        apply Classical.byContradiction
        intro hn
        exact hx ⟨j, hj, fun v hv => Classical.byContradiction fun hb => hn ⟨v, hv, hb⟩⟩
      obtain ⟨v, hv, hb⟩ := this
      exact countP_lt (fun x _ hx => decide_eq_true (Or.inl (of_decide_eq_true hx))) ⟨v, List.mem_range.mpr (ball_lt hs ha hv), decide_eq_true hv, decide_eq_false hb⟩
    have low : ∀ j, j ≤ n + 1 → j ≤ c j := by
      intro j
      induction j with
      | zero => exact fun _ => Nat.zero_le _
      | succ j ih =>
        intro hj
        have := ih (by omega)
        have := inc j (by omega)
        omega
    have h1 := low (n + 1) (Nat.le_refl _)
    have h2 : c (n + 1) ≤ n := by
      have := List.countP_le_length (p := fun v => decide (ball A src (n + 1) v)) (l := List.range n)
      rwa [List.length_range] at this
    omega
theorem dist_le {n : Nat} (hs : ∀ v, src v → v < n) (ha : ∀ u v, A u v → v < n) {v d : Nat} (h : IsDist A src v d) : d ≤ n := h.2 _ (ball_n hs ha h.1)

/-! ### by a queue -/
abbrev look (fs : List (Nat × Nat)) (v : Nat) : Option Nat := fs.lookup v
theorem look_app {fs : List (Nat × Nat)} {o k v : Nat} (h : look fs o = none) : look (fs ++ [(o, k)]) v = if v = o then some k else look fs v := by
  induction fs with
  | nil =>
    by_cases hv : v = o
    · subst hv; simp [look, List.lookup]
    · have : (v == o) = false := by simpa using hv
      simp [look, List.lookup, hv, this]
  | cons p r ih =>
    obtain ⟨a, b⟩ := p
    unfold look at h ih ⊢
    rw [List.lookup_cons] at h
    rw [List.cons_append, List.lookup_cons, List.lookup_cons]
    cases ho : (o == a) with
    | true => rw [ho] at h; cases h
    | false =>
      rw [ho] at h
      cases hv : (v == a) with
      | true =>
        have : v ≠ o := fun e => by rw [e, ho] at hv; cases hv
        rw [if_neg this]
      | false => exact ih h
/-- one neighbour found, or not -/
def push (k : Nat) (s : List (Nat × Nat) × List Nat) (o : Nat) : List (Nat × Nat) × List Nat := if (look s.1 o).isSome = true then s else (s.1 ++ [(o, k + 1)], s.2 ++ [o])
/-- the queue's state: h the one that is gone through (or none), values k, then k + 1 -/
structure Mid (A : Nat → Nat → Prop) (src : Nat → Prop) (n : Nat) (h : Nat → Prop) (k : Nat) (q1 : List Nat) (fs : List (Nat × Nat)) (q2 : List Nat) : Prop where
  path : ∀ v d, look fs v = some d → ball A src d v
  src : ∀ v, src v → look fs v = some 0
  v1 : ∀ u ∈ q1, look fs u = some k
  v2 : ∀ u ∈ q2, look fs u = some (k + 1)
  closed : ∀ u d, look fs u = some d → u ∉ q1 → u ∉ q2 → ¬ h u → ∀ v, A u v → ∃ e, look fs v = some e ∧ e ≤ d + 1
  most : ∀ v d, look fs v = some d → d ≤ k + 1
/-- who is not found yet -/
def left (n : Nat) (fs : List (Nat × Nat)) : Nat := (List.range n).countP fun v => (look fs v).isNone
theorem Mid.push {n k h : Nat} {q1 : List Nat} {fs : List (Nat × Nat)} {q2 : List Nat} (m : Mid A src n (· = h) k q1 fs q2) (hk : look fs h = some k) {o : Nat} (a : A h o) (ho : o < n) :
    Mid A src n (· = h) k q1 (PG.push k (fs, q2) o).1 (PG.push k (fs, q2) o).2 ∧ look (PG.push k (fs, q2) o).1 h = some k ∧ (∃ e, look (PG.push k (fs, q2) o).1 o = some e ∧ e ≤ k + 1) ∧ (∀ v d, look fs v = some d → look (PG.push k (fs, q2) o).1 v = some d) ∧
      left n (PG.push k (fs, q2) o).1 + (PG.push k (fs, q2) o).2.length ≤ left n fs + q2.length := by
  unfold PG.push
  by_cases hs : (look fs o).isSome = true
  · simp only [hs, if_true]
    obtain ⟨e, he⟩ := Option.isSome_iff_exists.mp hs
    exact ⟨m, hk, ⟨e, he, m.most _ _ he⟩, fun _ _ e => e, Nat.le_refl _⟩
  · have hs : (look fs o).isSome = false := Bool.eq_false_iff.mpr hs
    simp only [hs, if_false, Bool.false_eq_true]
    have hn : look fs o = none := by
      cases e : look fs o with
      | none => rfl
      | some d => rw [e] at hs; cases hs
    have ne : ∀ {v d}, look fs v = some d → v ≠ o := fun e z => by rw [z, hn] at e; cases e
    have keep : ∀ v d, look fs v = some d → look (fs ++ [(o, k + 1)]) v = some d := fun v d e => by rw [look_app hn, if_neg (ne e)]; exact e
    have new : look (fs ++ [(o, k + 1)]) o = some (k + 1) := by rw [look_app hn, if_pos rfl]
    have back : ∀ v d, look (fs ++ [(o, k + 1)]) v = some d → (v = o ∧ d = k + 1) ∨ look fs v = some d := fun v d e => by
      rw [look_app hn] at e
      split at e
      · rename_i hv; cases e; exact .inl ⟨hv, rfl⟩
      · exact .inr e
    refine ⟨⟨fun v d e => ?_, fun v s => keep _ _ (m.src v s), fun u hu => keep _ _ (m.v1 u hu), fun u hu => ?_, fun u d e n1 n2 nh v av => ?_, fun v d e => ?_⟩, keep _ _ hk, ⟨_, new, Nat.le_refl _⟩, keep, ?_⟩
    · rcases back v d e with ⟨rfl, rfl⟩ | e
      · exact ball_step (m.path _ _ hk) a
      · exact m.path _ _ e
    · rcases List.mem_append.mp hu with hu | hu
      · exact keep _ _ (m.v2 u hu)
      · rw [show u = o by simpa using hu]; exact new
    · rcases back u d e with ⟨rfl, rfl⟩ | e
      · exact absurd (List.mem_append.mpr (.inr (by simp))) n2
      · obtain ⟨x, ex, hx⟩ := m.closed u d e n1 (fun z => n2 (List.mem_append.mpr (.inl z))) nh v av
        exact ⟨x, keep _ _ ex, hx⟩
    · rcases back v d e with ⟨_, rfl⟩ | e
      · exact Nat.le_refl _
      · exact m.most _ _ e
    · have : left n (fs ++ [(o, k + 1)]) < left n fs := by
        refine countP_lt (fun x _ hx => ?_) ⟨o, List.mem_range.mpr ho, by rw [hn]; rfl, by rw [new]; rfl⟩
        cases e : look fs x with
        | none => rfl
        | some d => rw [keep _ _ e] at hx; cases hx
      rw [List.length_append, List.length_singleton]
      omega
theorem Mid.all {n k h : Nat} {q1 : List Nat} : ∀ {ns : List Nat} {fs : List (Nat × Nat)} {q2 : List Nat}, Mid A src n (· = h) k q1 fs q2 → look fs h = some k → (∀ o ∈ ns, A h o ∧ o < n) →
    Mid A src n (· = h) k q1 (ns.foldl (PG.push k) (fs, q2)).1 (ns.foldl (PG.push k) (fs, q2)).2 ∧ look (ns.foldl (PG.push k) (fs, q2)).1 h = some k ∧ (∀ o ∈ ns, ∃ e, look (ns.foldl (PG.push k) (fs, q2)).1 o = some e ∧ e ≤ k + 1) ∧ (∀ v d, look fs v = some d → look (ns.foldl (PG.push k) (fs, q2)).1 v = some d) ∧
      left n (ns.foldl (PG.push k) (fs, q2)).1 + (ns.foldl (PG.push k) (fs, q2)).2.length ≤ left n fs + q2.length
  | [], fs, q2, m, hk, _ => ⟨m, hk, fun _ h => (nomatch h), fun _ _ e => e, Nat.le_refl _⟩
  | o :: ns, fs, q2, m, hk, ha => by
    obtain ⟨a, ho⟩ := ha o List.mem_cons_self
    obtain ⟨m1, k1, ⟨e, he, hle⟩, kp, l1⟩ := m.push hk a ho
    obtain ⟨m2, k2, h2, kp2, l2⟩ := Mid.all (ns := ns) m1 k1 fun o ho => ha o (List.mem_cons_of_mem _ ho)
    rw [List.foldl_cons]
    refine ⟨m2, k2, fun x hx => ?_, fun v d e => kp2 _ _ (kp _ _ e), Nat.le_trans l2 l1⟩
    rcases List.mem_cons.mp hx with rfl | hx
    · exact ⟨e, kp2 _ _ he, hle⟩
    · exact h2 x hx
/-- between two turns -/
def Inv (A : Nat → Nat → Prop) (src : Nat → Prop) (n : Nat) (fs : List (Nat × Nat)) (q : List Nat) : Prop := ∃ k q1 q2, q = q1 ++ q2 ∧ Mid A src n (fun _ => False) k q1 fs q2
theorem Inv.turn {n h : Nat} {q : List Nat} {fs : List (Nat × Nat)} {ns : List Nat} (i : Inv A src n fs (h :: q)) (hn : ∀ o, o ∈ ns ↔ A h o) (hlt : ∀ u v, A u v → v < n) : ∃ k, look fs h = some k ∧
    Inv A src n (ns.foldl (PG.push k) (fs, q)).1 (ns.foldl (PG.push k) (fs, q)).2 ∧ left n (ns.foldl (PG.push k) (fs, q)).1 + (ns.foldl (PG.push k) (fs, q)).2.length < left n fs + (h :: q).length := by
  obtain ⟨k, q1, q2, e, m⟩ := i
  -- the head stands among the first values
  have norm : ∃ k r1 r2, h :: q = h :: (r1 ++ r2) ∧ Mid A src n (fun _ => False) k (h :: r1) fs r2 := by
    cases q1 with
    | cons x r1 => cases e; exact ⟨k, r1, q2, rfl, m⟩
    | nil =>
      have e : h :: q = q2 := e
      subst e
      exact ⟨k + 1, q, [], by simp, m.path, m.src, fun u hu => m.v2 u hu, fun u hu => (nomatch hu), fun u d ed n1 _ nh v a => m.closed u d ed (fun z => (nomatch z)) n1 nh v a, fun v d ed => Nat.le_succ_of_le (m.most v d ed)⟩
  obtain ⟨k, r1, r2, e, m⟩ := norm
  have e : q = r1 ++ r2 := List.tail_eq_of_cons_eq e
  subst e
  have hk := m.v1 h List.mem_cons_self
  have m1 : Mid A src n (· = h) k r1 fs r2 := ⟨m.path, m.src, fun u hu => m.v1 u (List.mem_cons_of_mem _ hu), m.v2, fun u d ed n1 n2 nh v a => m.closed u d ed (fun z => by
    rcases List.mem_cons.mp z with z | z
    · exact nh z
    · exact n1 z) n2 (fun z => z) v a, m.most⟩
  obtain ⟨m2, k2, h2, _, l2⟩ := m1.all hk (ns := ns) fun o ho => ⟨(hn o).mp ho, hlt _ _ ((hn o).mp ho)⟩
  have pre : ∀ (ns : List Nat) (fs : List (Nat × Nat)) (a b : List Nat), ns.foldl (PG.push k) (fs, a ++ b) = ((ns.foldl (PG.push k) (fs, b)).1, a ++ (ns.foldl (PG.push k) (fs, b)).2) := by
    intro ns
    induction ns with
    | nil => intro fs a b; rfl
    | cons o ns ih =>
      intro fs a b
      rw [List.foldl_cons, List.foldl_cons]
      have : PG.push k (fs, a ++ b) o = ((PG.push k (fs, b) o).1, a ++ (PG.push k (fs, b) o).2) := by
        unfold PG.push
        by_cases hs : (look fs o).isSome = true
        · simp only [hs, if_true]
        · simp only [hs, if_false, List.append_assoc]; rfl
      rw [this, ih]
  refine ⟨k, hk, ?_, ?_⟩
  · rw [pre]
    refine ⟨k, r1, _, rfl, m2.path, m2.src, m2.v1, m2.v2, fun u d ed n1 n2 _ v a => ?_, m2.most⟩
    by_cases hu : u = h
    · subst hu
      rw [k2] at ed; cases ed
      exact h2 v ((hn v).mpr a)
    · exact m2.closed u d ed n1 n2 hu v a
  · rw [pre]
    simp only [List.length_append, List.length_cons]
    omega
/-- nobody waits: the fewest steps are found -/
theorem Inv.done {n : Nat} {fs : List (Nat × Nat)} (i : Inv A src n fs []) (v d : Nat) : look fs v = some d ↔ IsDist A src v d := by
  obtain ⟨k, q1, q2, e, m⟩ := i
  have e1 : q1 = [] := (List.append_eq_nil_iff.mp e.symm).1
  have e2 : q2 = [] := (List.append_eq_nil_iff.mp e.symm).2
  subst e1 e2
  have found : ∀ k v, ball A src k v → ∃ e, look fs v = some e ∧ e ≤ k := by
    intro k
    induction k with
    | zero => exact fun v s => ⟨0, m.src v s, Nat.le_refl _⟩
    | succ k ih =>
      intro v h
      rcases h with h | ⟨u, h, a⟩
      · obtain ⟨e, he, hle⟩ := ih v h
        exact ⟨e, he, by omega⟩
      · obtain ⟨e, he, hle⟩ := ih u h
        obtain ⟨x, hx, hxle⟩ := m.closed u e he (fun z => (nomatch z)) (fun z => (nomatch z)) (fun z => z) v a
        exact ⟨x, hx, by omega⟩
  constructor
  · intro hv
    refine ⟨m.path v d hv, fun k hk => ?_⟩
    obtain ⟨e, he, hle⟩ := found k v hk
    rw [hv] at he; cases he
    exact hle
  · intro hd
    obtain ⟨e, he, hle⟩ := found d v hd.1
    have := hd.2 e (m.path v e he)
    rw [he, show e = d by omega]
theorem Inv.noway {n : Nat} {fs : List (Nat × Nat)} (i : Inv A src n fs []) {v : Nat} (h : look fs v = none) (k : Nat) : ¬ ball A src k v := fun hb => by
  obtain ⟨d, hd⟩ := exists_dist hb
  rw [(i.done v d).mpr hd] at h
  cases h
/-- at the start -/
theorem Inv.start {n : Nat} {l : List Nat} (hs : ∀ v, v ∈ l ↔ src v) {fs : List (Nat × Nat)} (hf : ∀ v, look fs v = if v ∈ l then some 0 else none) : Inv A src n fs l := by
  have z : ∀ v d, look fs v = some d → v ∈ l ∧ d = 0 := fun v d e => by
    rw [hf] at e
    split at e
    · cases e; exact ⟨by assumption, rfl⟩
    · cases e
  refine ⟨0, l, [], by simp, fun v d e => ?_, fun v s => ?_, fun u hu => ?_, fun u hu => (nomatch hu), fun u d e n1 => absurd (z u d e).1 n1, fun v d e => ?_⟩
  · obtain ⟨h, rfl⟩ := z v d e
    exact (hs v).mp h
  · rw [hf, if_pos ((hs v).mpr s)]
  · rw [hf, if_pos hu]
  · rw [(z v d e).2]; exact Nat.zero_le _

/-! ### by putting right again and again -/
def relax (p : Nat × Nat) (xs : List Nat) : List Nat :=
  let ys := xs.set p.1 (min (xs.getD p.1 0) (xs.getD p.2 0 + 1))
  ys.set p.2 (min (ys.getD p.2 0) (ys.getD p.1 0 + 1))
theorem getD_set {xs : List Nat} {i j x : Nat} (hi : i < xs.length) : (xs.set i x).getD j 0 = if j = i then x else xs.getD j 0 := by
  by_cases h : j = i
  · subst h
    rw [if_pos rfl, List.getD_eq_getElem?_getD, List.getElem?_set_self hi]; rfl
  · rw [if_neg h, List.getD_eq_getElem?_getD, List.getElem?_set_ne (fun e => h e.symm), ← List.getD_eq_getElem?_getD]
structure Low (A : Nat → Nat → Prop) (src : Nat → Prop) (n : Nat) (xs : List Nat) : Prop where
  len : xs.length = n
  most : ∀ v, v < n → xs.getD v 0 ≤ 99
  path : ∀ v, v < n → xs.getD v 0 < 99 → ball A src (xs.getD v 0) v
theorem Low.relax {n : Nat} {xs : List Nat} (l : Low A src n xs) {a b : Nat} (ha : a < n) (hb : b < n) (h : A a b) (h' : A b a) : Low A src n (relax (a, b) xs) ∧ (∀ v, (PG.relax (a, b) xs).getD v 0 ≤ xs.getD v 0) ∧
    (PG.relax (a, b) xs).getD a 0 ≤ xs.getD b 0 + 1 ∧ (PG.relax (a, b) xs).getD b 0 ≤ xs.getD a 0 + 1 := by
  unfold PG.relax
  simp only
  have la : a < xs.length := by rw [l.len]; exact ha
  have lb : b < (xs.set a (min (xs.getD a 0) (xs.getD b 0 + 1))).length := by rw [List.length_set, l.len]; exact hb
  have e1 : ∀ v, (xs.set a (min (xs.getD a 0) (xs.getD b 0 + 1))).getD v 0 = if v = a then min (xs.getD a 0) (xs.getD b 0 + 1) else xs.getD v 0 := fun v => getD_set la
  have e2 : ∀ v, ((xs.set a (min (xs.getD a 0) (xs.getD b 0 + 1))).set b (min ((xs.set a (min (xs.getD a 0) (xs.getD b 0 + 1))).getD b 0) ((xs.set a (min (xs.getD a 0) (xs.getD b 0 + 1))).getD a 0 + 1))).getD v 0 =
      if v = b then min (if b = a then min (xs.getD a 0) (xs.getD b 0 + 1) else xs.getD b 0) (min (xs.getD a 0) (xs.getD b 0 + 1) + 1) else if v = a then min (xs.getD a 0) (xs.getD b 0 + 1) else xs.getD v 0 := fun v => by
    rw [getD_set lb, e1, e1, e1, if_pos rfl]
  have pa : min (xs.getD a 0) (xs.getD b 0 + 1) < 99 → ball A src (min (xs.getD a 0) (xs.getD b 0 + 1)) a := fun hlt => by
    rcases Nat.le_total (xs.getD a 0) (xs.getD b 0 + 1) with q | q
    · rw [Nat.min_eq_left q] at hlt ⊢; exact l.path a ha hlt
    · rw [Nat.min_eq_right q] at hlt ⊢; exact ball_step (l.path b hb (by omega)) h'
  have m1 := l.most a ha
  have m2 := l.most b hb
  refine ⟨⟨by rw [List.length_set, List.length_set, l.len], fun v hv => ?_, fun v hv hlt => ?_⟩, fun v => ?_, ?_, ?_⟩
  · rw [e2]
    have := l.most v hv
    split
    · split <;> omega
    · split <;> omega
  · rw [e2] at hlt ⊢
    split at hlt
    · rename_i hvb
      subst hvb
      rw [if_pos rfl]
      by_cases hba : v = a
      · subst hba
        rw [if_pos rfl] at hlt ⊢
        rw [Nat.min_eq_left (by omega)] at hlt ⊢
        exact pa hlt
      · rw [if_neg hba] at hlt ⊢
        rcases Nat.le_total (xs.getD v 0) (min (xs.getD a 0) (xs.getD v 0 + 1) + 1) with q | q
        · rw [Nat.min_eq_left q] at hlt ⊢; exact l.path v hv hlt
        · rw [Nat.min_eq_right q] at hlt ⊢; exact ball_step (pa (by omega)) h
    · rename_i hvb
      rw [if_neg hvb]
      split at hlt
      · rename_i hva
        subst hva
        rw [if_pos rfl]
        exact pa hlt
      · rename_i hva
        rw [if_neg hva]
        exact l.path v hv hlt
  · rw [e2]
    split
    · rename_i hvb
      subst hvb
      split
      · rename_i hba; subst hba; omega
      · omega
    · split
      · rename_i hva; subst hva; omega
      · exact Nat.le_refl _
  · rw [e2]
    split
    · rename_i hab; subst hab; split <;> omega
    · rw [if_pos rfl]; omega
  · rw [e2, if_pos rfl]
    split <;> omega
def Up (A : Nat → Nat → Prop) (src : Nat → Prop) (n t : Nat) (xs : List Nat) : Prop := ∀ v k, v < n → k ≤ t → ball A src k v → xs.getD v 0 ≤ k
theorem round {n t : Nat} : ∀ {ts : List (Nat × Nat)} {xs : List Nat}, (∀ p ∈ ts, p.1 < n ∧ p.2 < n ∧ A p.1 p.2 ∧ A p.2 p.1) → Low A src n xs → Up A src n t xs →
    Low A src n (ts.foldl (fun xs p => relax p xs) xs) ∧ (∀ v, (ts.foldl (fun xs p => relax p xs) xs).getD v 0 ≤ xs.getD v 0) ∧
      ∀ p ∈ ts, (ball A src t p.1 → (ts.foldl (fun xs p => relax p xs) xs).getD p.2 0 ≤ t + 1) ∧ (ball A src t p.2 → (ts.foldl (fun xs p => relax p xs) xs).getD p.1 0 ≤ t + 1)
  | [], xs, _, l, u => ⟨l, fun _ => Nat.le_refl _, fun _ h => (nomatch h)⟩
  | (a, b) :: ts, xs, hp, l, u => by
    obtain ⟨ha, hb, h1, h2⟩ := hp (a, b) List.mem_cons_self
    obtain ⟨l1, d1, r1, r2⟩ := l.relax ha hb h1 h2
    have u1 : Up A src n t (relax (a, b) xs) := fun v k hv hk hb => Nat.le_trans (d1 v) (u v k hv hk hb)
    obtain ⟨l2, d2, r3⟩ := round (ts := ts) (fun p hq => hp p (List.mem_cons_of_mem _ hq)) l1 u1
    rw [List.foldl_cons]
    refine ⟨l2, fun v => Nat.le_trans (d2 v) (d1 v), fun p hq => ?_⟩
    rcases List.mem_cons.mp hq with rfl | hq
    · refine ⟨fun h => ?_, fun h => ?_⟩
      · have := u a t ha (Nat.le_refl _) h
        have := d2 b
        simp only at *
        omega
      · have := u b t hb (Nat.le_refl _) h
        have := d2 a
        simp only at *
        omega
    · exact r3 p hq
theorem Up.next {n t : Nat} {ts : List (Nat × Nat)} {xs : List Nat} (hp : ∀ p ∈ ts, p.1 < n ∧ p.2 < n ∧ A p.1 p.2 ∧ A p.2 p.1) (hA : ∀ u v, A u v → (u, v) ∈ ts ∨ (v, u) ∈ ts) (l : Low A src n xs) (u : Up A src n t xs) :
    Low A src n (ts.foldl (fun xs p => relax p xs) xs) ∧ Up A src n (t + 1) (ts.foldl (fun xs p => relax p xs) xs) := by
  obtain ⟨l2, d2, r⟩ := round hp l u
  refine ⟨l2, fun v k hv hk hb => ?_⟩
  rcases Nat.lt_or_ge k (t + 1) with q | q
  · exact Nat.le_trans (d2 v) (u v k hv (by omega) hb)
  · have e : k = t + 1 := by omega
    subst e
    rcases hb with hb | ⟨w, hw, a⟩
    · have := u v t hv (Nat.le_refl _) hb
      have := d2 v
      omega
    · rcases hA w v a with m | m
      · exact (r _ m).1 hw
      · exact (r _ m).2 hw
/-- after n rounds -/
theorem low_up_dist {n : Nat} {xs : List Nat} (hn : n < 99) (hs : ∀ v, src v → v < n) (ha : ∀ u v, A u v → v < n) (l : Low A src n xs) (u : Up A src n n xs) {v : Nat} (hv : v < n) :
    (∀ d, IsDist A src v d → xs.getD v 0 = d) ∧ ((∀ k, ¬ ball A src k v) → xs.getD v 0 = 99) := by
  refine ⟨fun d hd => ?_, fun hno => ?_⟩
  · have h1 := u v d hv (dist_le hs ha hd) hd.1
    have h2 := dist_le hs ha hd
    have h3 := hd.2 _ (l.path v hv (by omega))
    omega
  · have h1 := l.most v hv
    rcases Nat.lt_or_ge (xs.getD v 0) 99 with q | q
    · exact absurd (l.path v hv q) (hno _)
    · omega
end
end PG
end
section
namespace K08
open PySem PySem.Spec PyProof.Rows L2 DL
def topS (i : Nat) : Stmt := PySem.Challenge.pw_comeright_k08_whole_paths_and_parts.main.body.getD i (.Pass ⟨0, 0, 0, 0⟩)
structure Txt (mg : Str → Option Value) : Prop where
  n_abs : mg "abs" = none
  n_all : mg "all" = none
  n_bool : mg "bool" = none
  n_int : mg "int" = none
  n_isinstance : mg "isinstance" = none
  n_len : mg "len" = none
  n_list : mg "list" = none
  n_max : mg "max" = none
  n_min : mg "min" = none
  n_range : mg "range" = none
  n_sorted : mg "sorted" = none
  n_tuple : mg "tuple" = none
  n_zip : mg "zip" = none
  c_MOST_SEATS : ∃ t, mg "MOST_SEATS" = some (.int 12 t)
/-! is_whole -/
abbrev s_is_whole : Stmt := topS 7
abbrev N_is_whole : List Str := ["thing"]
abbrev P_is_whole : List Str := ["thing"]
noncomputable def m_is_whole : DM Fl := (sRet (eAnd (eIsI .int (eVar 0)) (eNot (eIsI .bool (eVar 0)))))
noncomputable def f_is_whole : DF := runF 1 m_is_whole
theorem sc_is_whole : FnScope N_is_whole P_is_whole (defScope s_is_whole) := ⟨rfl, rfl, rfl, by decide +kernel, rfl, by decide +kernel, by decide +kernel⟩
theorem ok_is_whole {P : Program} {w : World} {K : PySem.W.Frag} {mg : Str → Option Value} {base : Heap} {a : Addr} {fd : FuncData} (T : Txt mg) (F : Fun K "is_whole" "is_whole" s_is_whole a fd) : FnG P w K mg base 1 a fd P_is_whole (spM K mg 1 f_is_whole) := by
  refine Fun.dl (N := N_is_whole) F sc_is_whole fun cdv A outer s H E W as hr => ?_
  have Sc := sc_is_whole
  have hu := hr.rm.units
  have hu65 := units65 hr.rm
  have hu1 := units1 hr.rm
  exact (qs_one (qs_ret (px_and rfl (px_isi rfl .int (by decide +kernel) (by rfl) T.n_isinstance (by rfl) T.n_int (pd_var 0)) (px_one (px_not rfl (px_isi rfl .bool (by decide +kernel) (by rfl) T.n_isinstance (by rfl) T.n_bool (pd_var 0)))))))
/-! is_below -/
abbrev s_is_below : Stmt := topS 8
abbrev N_is_below : List Str := ["thing", "many"]
abbrev P_is_below : List Str := ["thing", "many"]
noncomputable def m_is_below : DM Fl := (sRet (eAnd (mBind (lCons (eVar 0) lNil) (callF 1 f_is_whole)) (eChain (opCmpI fun i j => decide (i ≤ j)) opLt (eK (.int 0)) (eVar 0) (eVar 1))))
noncomputable def f_is_below : DF := runF 2 m_is_below
theorem sc_is_below : FnScope N_is_below P_is_below (defScope s_is_below) := ⟨rfl, rfl, rfl, by decide +kernel, rfl, by decide +kernel, by decide +kernel⟩
theorem ok_is_below {P : Program} {w : World} {K : PySem.W.Frag} {mg : Str → Option Value} {base : Heap} {a : Addr} {fd : FuncData} (T : Txt mg) (F : Fun K "is_below" "is_below" s_is_below a fd) (C_is_whole : Cal P w K mg base 1 "is_whole" P_is_whole f_is_whole) : FnG P w K mg base 2 a fd P_is_below (spM K mg 2 f_is_below) := by
  refine Fun.dl (N := N_is_below) F sc_is_below fun cdv A outer s H E W as hr => ?_
  have Sc := sc_is_below
  have hu := hr.rm.units
  have hu65 := units65 hr.rm
  have hu1 := units1 hr.rm
  exact (qs_one (qs_ret (px_and rfl (px_callC C_is_whole hr (by rfl) rfl rfl (takes_of rfl rfl rfl rfl) (px_cons (pd_var 0) px_nil)) (px_one (px_chain ox_le (ox_lt rfl hu) pd_int (pd_var 0) (pd_var 1))))))
/-! are_below -/
abbrev s_are_below : Stmt := topS 9
abbrev N_are_below : List Str := ["thing", "many", "one"]
abbrev P_are_below : List Str := ["thing", "many"]
noncomputable def qare_below_e1 : DM D := (mBind (lCons (eVar 2) (lCons (eVar 1) lNil)) (callF 2 f_is_below))
noncomputable def m_are_below : DM Fl := (sRet (eAnd (eIsI .tuple (eVar 0)) (eCall fAll (lCons (eLc [2] (iSeq (eVar 0)) (tgName 2) (mRet true) qare_below_e1) lNil))))
noncomputable def f_are_below : DF := runF 3 m_are_below
theorem sc_are_below : FnScope N_are_below P_are_below (defScope s_are_below) := ⟨rfl, rfl, rfl, by decide +kernel, rfl, by decide +kernel, by decide +kernel⟩
theorem ok_are_below {P : Program} {w : World} {K : PySem.W.Frag} {mg : Str → Option Value} {base : Heap} {a : Addr} {fd : FuncData} (T : Txt mg) (F : Fun K "are_below" "are_below" s_are_below a fd) (C_is_below : Cal P w K mg base 2 "is_below" P_is_below f_is_below) : FnG P w K mg base 3 a fd P_are_below (spM K mg 2 f_are_below) := by
  refine Fun.dl (N := N_are_below) F sc_are_below fun cdv A outer s H E W as hr => ?_
  have Sc := sc_are_below
  have hu := hr.rm.units
  have hu65 := units65 hr.rm
  have hu1 := units1 hr.rm
  exact (qs_one (qs_ret (px_and rfl (px_isi rfl .tuple (by decide +kernel) (by rfl) T.n_isinstance (by rfl) T.n_tuple (pd_var 0)) (px_one (px_callB (cx_all rfl) (by rfl) T.n_all (by decide +kernel) (px_cons (px_lc (own := [("one", 2)]) rfl rfl rfl Sc.nd (ix_seq rfl (pd_var 0)) (by exact blkOk_by (N := N_are_below) (sc := defScope s_are_below) (own := [("one", 2)]) (by first | decide +kernel | kernel_rfl | rfl)) (fun s1 H1 C1 cl1 fp1 => (pg_name (i := 2) Sc.nd rfl (by first | exact Or.inl rfl | exact Or.inr rfl))) (tr_name) (fun s1 H1 C1 cl1 fp1 g1 hK1 hM1 => ptsx_nil) (fun s1 H1 C1 cl1 fp1 g1 hK1 hM1 => (px_callC C_is_below hr (by rfl) hK1 hM1 takes0 (px_cons (pd_var 2) (px_cons (pd_var 1) px_nil))))) px_nil))))))
/-! are_rising -/
abbrev s_are_rising : Stmt := topS 10
abbrev N_are_rising : List Str := ["row", "one", "other"]
abbrev P_are_rising : List Str := ["row"]
noncomputable def qare_rising_e1 : DM D := (eOp opLt (eVar 1) (eVar 2))
noncomputable def m_are_rising : DM Fl := (sRet (eCall fAll (lCons (eLc [1, 2] (iZip (lCons (eVar 0) (lCons (eSlice (eVar 0) (mBind (eK (.int 1)) asI) (mRet none)) lNil))) (tgTup (tgCons (tgName 1) (tgCons (tgName 2) tgNil))) (mRet true) qare_rising_e1) lNil)))
noncomputable def f_are_rising : DF := runF 3 m_are_rising
theorem sc_are_rising : FnScope N_are_rising P_are_rising (defScope s_are_rising) := ⟨rfl, rfl, rfl, by decide +kernel, rfl, by decide +kernel, by decide +kernel⟩
theorem ok_are_rising {P : Program} {w : World} {K : PySem.W.Frag} {mg : Str → Option Value} {base : Heap} {a : Addr} {fd : FuncData} (T : Txt mg) (F : Fun K "are_rising" "are_rising" s_are_rising a fd) : FnG P w K mg base 1 a fd P_are_rising (spM K mg 1 f_are_rising) := by
  refine Fun.dl (N := N_are_rising) F sc_are_rising fun cdv A outer s H E W as hr => ?_
  have Sc := sc_are_rising
  have hu := hr.rm.units
  have hu65 := units65 hr.rm
  have hu1 := units1 hr.rm
  exact (qs_one (qs_ret (px_callB (cx_all rfl) (by rfl) T.n_all (by decide +kernel) (px_cons (px_lc (own := [("one", 1), ("other", 2)]) rfl rfl rfl Sc.nd (ix_zip rfl (by rfl) T.n_zip (px_cons (pd_var 0) (px_cons (px_sliceT rfl (pd_var 0) (po_someX pd_int) po_noneX) px_nil))) (by exact blkOk_by (N := N_are_rising) (sc := defScope s_are_rising) (own := [("one", 1), ("other", 2)]) (by first | decide +kernel | kernel_rfl | rfl)) (fun s1 H1 C1 cl1 fp1 => (pg_tup rfl (pgs_cons (pg_name (i := 1) Sc.nd rfl (by first | exact Or.inl rfl | exact Or.inr rfl)) (pgs_cons (pg_name (i := 2) Sc.nd rfl (by first | exact Or.inl rfl | exact Or.inr rfl)) pgs_nil)))) (tr_tup (tr_cons (tr_name) (tr_cons (tr_name) tr_nil)) (tgCons_len (tgCons_len tgNil_len))) (fun s1 H1 C1 cl1 fp1 g1 hK1 hM1 => ptsx_nil) (fun s1 H1 C1 cl1 fp1 g1 hK1 hM1 => (px_cmp (ox_lt hK1 hu) (pd_var 1) (pd_var 2) (by rfl)))) px_nil))))
/-! is_tie -/
abbrev s_is_tie : Stmt := topS 11
abbrev N_is_tie : List Str := ["thing", "many"]
abbrev P_is_tie : List Str := ["thing", "many"]
noncomputable def m_is_tie : DM Fl := (sRet (eAnd (mBind (lCons (eVar 0) (lCons (eVar 1) lNil)) (callF 2 f_are_below)) (eAnd (eOp (opEq false) (eCall fLen (lCons (eVar 0) lNil)) (eK (.int 2))) (eOp opLt (eOp opIx (eVar 0) (eK (.int 0))) (eOp opIx (eVar 0) (eK (.int 1)))))))
noncomputable def f_is_tie : DF := runF 2 m_is_tie
theorem sc_is_tie : FnScope N_is_tie P_is_tie (defScope s_is_tie) := ⟨rfl, rfl, rfl, by decide +kernel, rfl, by decide +kernel, by decide +kernel⟩
theorem ok_is_tie {P : Program} {w : World} {K : PySem.W.Frag} {mg : Str → Option Value} {base : Heap} {a : Addr} {fd : FuncData} (T : Txt mg) (F : Fun K "is_tie" "is_tie" s_is_tie a fd) (C_are_below : Cal P w K mg base 3 "are_below" P_are_below f_are_below) : FnG P w K mg base 4 a fd P_is_tie (spM K mg 2 f_is_tie) := by
  refine Fun.dl (N := N_is_tie) F sc_is_tie fun cdv A outer s H E W as hr => ?_
  have Sc := sc_is_tie
  have hu := hr.rm.units
  have hu65 := units65 hr.rm
  have hu1 := units1 hr.rm
  exact (qs_one (qs_ret (px_and rfl (px_callC C_are_below hr (by rfl) rfl rfl (takes_of rfl rfl rfl rfl) (px_cons (pd_var 0) (px_cons (pd_var 1) px_nil))) (px_and rfl (px_cmp (ox_eq rfl hu) (px_callB (cx_len rfl) (by rfl) T.n_len (by decide +kernel) (px_cons (pd_var 0) px_nil)) pd_int (by rfl)) (px_one (px_cmp (ox_lt rfl hu) (px_ix rfl (pd_var 0) pd_int) (px_ix rfl (pd_var 0) pd_int) (by rfl)))))))
/-! is_web -/
abbrev s_is_web : Stmt := topS 12
abbrev N_is_web : List Str := ["thing", "many", "ties", "tie"]
abbrev P_is_web : List Str := ["thing"]
noncomputable def qis_web_e1 : DM D := (mBind (lCons (eVar 3) (lCons (eVar 1) lNil)) (callF 2 f_is_tie))
noncomputable def m_is_web : DM Fl := (sSeq (sIf (bOr (bNot (eTru (eIsI .tuple (eVar 0)))) (eTest (eOp (opEq true) (eCall fLen (lCons (eVar 0) lNil)) (eK (.int 2))))) (sRet (eK (.bl false))) sNext)
    (sSeq (sAsg (tgTup (tgCons (tgName 1) (tgCons (tgName 2) tgNil))) (eVar 0))
    (sSeq (sIf (bOr (bNot (eTru (mBind (lCons (eVar 1) (lCons (eOp opAdd (eK (.int 12)) (eK (.int 1))) lNil)) (callF 2 f_is_below)))) (bOr (eTest (eOp (opEq false) (eVar 1) (eK (.int 0)))) (bNot (eTru (eIsI .tuple (eVar 2)))))) (sRet (eK (.bl false))) sNext)
    (sRet (eAnd (eCall fAll (lCons (eLc [3] (iSeq (eVar 2)) (tgName 3) (mRet true) qis_web_e1) lNil)) (mBind (lCons (eVar 2) lNil) (callF 1 f_are_rising)))))))
noncomputable def f_is_web : DF := runF 4 m_is_web
theorem sc_is_web : FnScope N_is_web P_is_web (defScope s_is_web) := ⟨rfl, rfl, rfl, by decide +kernel, rfl, by decide +kernel, by decide +kernel⟩
theorem ok_is_web {P : Program} {w : World} {K : PySem.W.Frag} {mg : Str → Option Value} {base : Heap} {a : Addr} {fd : FuncData} (T : Txt mg) (F : Fun K "is_web" "is_web" s_is_web a fd) (C_is_below : Cal P w K mg base 4 "is_below" P_is_below f_is_below) (C_is_tie : Cal P w K mg base 4 "is_tie" P_is_tie f_is_tie) (C_are_rising : Cal P w K mg base 4 "are_rising" P_are_rising f_are_rising) : FnG P w K mg base 5 a fd P_is_web (spM K mg 1 f_is_web) := by
  refine Fun.dl (N := N_is_web) F sc_is_web fun cdv A outer s H E W as hr => ?_
  have Sc := sc_is_web
  have hu := hr.rm.units
  have hu65 := units65 hr.rm
  have hu1 := units1 hr.rm
  exact (qs_cons (qs_if (PW.pt (pw_orX (pt_notX (pt_tru rfl (px_isi rfl .tuple (by decide +kernel) (by rfl) T.n_isinstance (by rfl) T.n_tuple (pd_var 0)))) (pw_or1X (pt_cmpX (ox_ne rfl hu) (px_callB (cx_len rfl) (by rfl) T.n_len (by decide +kernel) (px_cons (pd_var 0) px_nil)) pd_int (by rfl))))) (qs_one (qs_ret pd_bl)) qs_nil)
    (qs_cons (qs_asg (pd_var 0) (GT.tup rfl rfl (gx_cons (gx_name (i := 1) Sc.nd rfl (by first | exact Or.inl rfl | exact Or.inr rfl)) (gx_cons (gx_name (i := 2) Sc.nd rfl (by first | exact Or.inl rfl | exact Or.inr rfl)) gx_nil)) rfl rfl (tgCons_len (tgCons_len tgNil_len))))
    (qs_cons (qs_if (PW.pt (pw_orX (pt_notX (pt_tru rfl (px_callC C_is_below hr (by rfl) rfl rfl (takes_of rfl rfl rfl rfl) (px_cons (pd_var 1) (px_cons (px_op (ox_add rfl) (pd_globI (by rfl) T.c_MOST_SEATS) pd_int) px_nil))))) (pw_orX (pt_cmpX (ox_eq rfl hu) (pd_var 1) pd_int (by rfl)) (pw_or1X (pt_notX (pt_tru rfl (px_isi rfl .tuple (by decide +kernel) (by rfl) T.n_isinstance (by rfl) T.n_tuple (pd_var 2)))))))) (qs_one (qs_ret pd_bl)) qs_nil)
    (qs_one (qs_ret (px_and rfl (px_callB (cx_all rfl) (by rfl) T.n_all (by decide +kernel) (px_cons (px_lc (own := [("tie", 3)]) rfl rfl rfl Sc.nd (ix_seq rfl (pd_var 2)) (by exact blkOk_by (N := N_is_web) (sc := defScope s_is_web) (own := [("tie", 3)]) (by first | decide +kernel | kernel_rfl | rfl)) (fun s1 H1 C1 cl1 fp1 => (pg_name (i := 3) Sc.nd rfl (by first | exact Or.inl rfl | exact Or.inr rfl))) (tr_name) (fun s1 H1 C1 cl1 fp1 g1 hK1 hM1 => ptsx_nil) (fun s1 H1 C1 cl1 fp1 g1 hK1 hM1 => (px_callC C_is_tie hr (by rfl) hK1 hM1 takes0 (px_cons (pd_var 3) (px_cons (pd_var 1) px_nil))))) px_nil)) (px_one (px_callC C_are_rising hr (by rfl) rfl rfl (takes_of rfl rfl rfl rfl) (px_cons (pd_var 2) px_nil)))))))))
/-! need_web -/
abbrev s_need_web : Stmt := topS 13
abbrev N_need_web : List Str := ["web"]
abbrev P_need_web : List Str := ["web"]
noncomputable def m_need_web : DM Fl := (sIf (bNot (eTru (mBind (lCons (eVar 0) lNil) (callF 1 f_is_web)))) sNever sNext)
noncomputable def f_need_web : DF := runF 1 m_need_web
theorem sc_need_web : FnScope N_need_web P_need_web (defScope s_need_web) := ⟨rfl, rfl, rfl, by decide +kernel, rfl, by decide +kernel, by decide +kernel⟩
theorem ok_need_web {P : Program} {w : World} {K : PySem.W.Frag} {mg : Str → Option Value} {base : Heap} {a : Addr} {fd : FuncData} (T : Txt mg) (F : Fun K "need_web" "need_web" s_need_web a fd) (C_is_web : Cal P w K mg base 5 "is_web" P_is_web f_is_web) : FnG P w K mg base 6 a fd P_need_web (spM K mg 1 f_need_web) := by
  refine Fun.dl (N := N_need_web) F sc_need_web fun cdv A outer s H E W as hr => ?_
  have Sc := sc_need_web
  have hu := hr.rm.units
  have hu65 := units65 hr.rm
  have hu1 := units1 hr.rm
  exact (qs_one (qs_if (pt_notX (pt_tru rfl (px_callC C_is_web hr (by rfl) rfl rfl (takes_of rfl rfl rfl rfl) (px_cons (pd_var 0) px_nil)))) (qs_one qs_never) qs_nil))
/-! need_seat -/
abbrev s_need_seat : Stmt := topS 14
abbrev N_need_seat : List Str := ["web", "seat"]
abbrev P_need_seat : List Str := ["web", "seat"]
noncomputable def m_need_seat : DM Fl := (sIf (bNot (eTru (mBind (lCons (eVar 1) (lCons (eOp opIx (eVar 0) (eK (.int 0))) lNil)) (callF 2 f_is_below)))) sNever sNext)
noncomputable def f_need_seat : DF := runF 2 m_need_seat
theorem sc_need_seat : FnScope N_need_seat P_need_seat (defScope s_need_seat) := ⟨rfl, rfl, rfl, by decide +kernel, rfl, by decide +kernel, by decide +kernel⟩
theorem ok_need_seat {P : Program} {w : World} {K : PySem.W.Frag} {mg : Str → Option Value} {base : Heap} {a : Addr} {fd : FuncData} (T : Txt mg) (F : Fun K "need_seat" "need_seat" s_need_seat a fd) (C_is_below : Cal P w K mg base 2 "is_below" P_is_below f_is_below) : FnG P w K mg base 3 a fd P_need_seat (spM K mg 2 f_need_seat) := by
  refine Fun.dl (N := N_need_seat) F sc_need_seat fun cdv A outer s H E W as hr => ?_
  have Sc := sc_need_seat
  have hu := hr.rm.units
  have hu65 := units65 hr.rm
  have hu1 := units1 hr.rm
  exact (qs_one (qs_if (pt_notX (pt_tru rfl (px_callC C_is_below hr (by rfl) rfl rfl (takes_of rfl rfl rfl rfl) (px_cons (pd_var 1) (px_cons (px_ix rfl (pd_var 0) pd_int) px_nil))))) (qs_one qs_never) qs_nil))
/-! need_seats -/
abbrev s_need_seats : Stmt := topS 15
abbrev N_need_seats : List Str := ["web", "seats"]
abbrev P_need_seats : List Str := ["web", "seats"]
noncomputable def m_need_seats : DM Fl := (sIf (bOr (bNot (eTru (mBind (lCons (eVar 1) (lCons (eOp opIx (eVar 0) (eK (.int 0))) lNil)) (callF 2 f_are_below)))) (bNot (eTru (mBind (lCons (eVar 1) lNil) (callF 1 f_are_rising))))) sNever sNext)
noncomputable def f_need_seats : DF := runF 2 m_need_seats
theorem sc_need_seats : FnScope N_need_seats P_need_seats (defScope s_need_seats) := ⟨rfl, rfl, rfl, by decide +kernel, rfl, by decide +kernel, by decide +kernel⟩
theorem ok_need_seats {P : Program} {w : World} {K : PySem.W.Frag} {mg : Str → Option Value} {base : Heap} {a : Addr} {fd : FuncData} (T : Txt mg) (F : Fun K "need_seats" "need_seats" s_need_seats a fd) (C_are_below : Cal P w K mg base 3 "are_below" P_are_below f_are_below) (C_are_rising : Cal P w K mg base 3 "are_rising" P_are_rising f_are_rising) : FnG P w K mg base 4 a fd P_need_seats (spM K mg 2 f_need_seats) := by
  refine Fun.dl (N := N_need_seats) F sc_need_seats fun cdv A outer s H E W as hr => ?_
  have Sc := sc_need_seats
  have hu := hr.rm.units
  have hu65 := units65 hr.rm
  have hu1 := units1 hr.rm
  exact (qs_one (qs_if (PW.pt (pw_orX (pt_notX (pt_tru rfl (px_callC C_are_below hr (by rfl) rfl rfl (takes_of rfl rfl rfl rfl) (px_cons (pd_var 1) (px_cons (px_ix rfl (pd_var 0) pd_int) px_nil))))) (pw_or1X (pt_notX (pt_tru rfl (px_callC C_are_rising hr (by rfl) rfl rfl (takes_of rfl rfl rfl rfl) (px_cons (pd_var 1) px_nil))))))) (qs_one qs_never) qs_nil))
/-! neighbours_by -/
abbrev s_neighbours_by : Stmt := topS 16
abbrev N_neighbours_by : List Str := ["web", "seat", "a", "b"]
abbrev P_neighbours_by : List Str := ["web", "seat"]
noncomputable def qneighbours_by_t1 : DM Bool := (eTest (eOp (opIn false) (eVar 1) (eTup (lCons (eVar 2) (lCons (eVar 3) lNil)))))
noncomputable def qneighbours_by_e2 : DM D := (eOp opSub (eOp opAdd (eVar 2) (eVar 3)) (eVar 1))
noncomputable def m_neighbours_by : DM Fl := (sRet (eCall fTuple (lCons (eLc [2, 3] (iSeq (eOp opIx (eVar 0) (eK (.int 1)))) (tgTup (tgCons (tgName 2) (tgCons (tgName 3) tgNil))) qneighbours_by_t1 qneighbours_by_e2) lNil)))
noncomputable def f_neighbours_by : DF := runF 4 m_neighbours_by
theorem sc_neighbours_by : FnScope N_neighbours_by P_neighbours_by (defScope s_neighbours_by) := ⟨rfl, rfl, rfl, by decide +kernel, rfl, by decide +kernel, by decide +kernel⟩
theorem ok_neighbours_by {P : Program} {w : World} {K : PySem.W.Frag} {mg : Str → Option Value} {base : Heap} {a : Addr} {fd : FuncData} (T : Txt mg) (F : Fun K "neighbours_by" "neighbours_by" s_neighbours_by a fd) : FnG P w K mg base 1 a fd P_neighbours_by (spM K mg 2 f_neighbours_by) := by
  refine Fun.dl (N := N_neighbours_by) F sc_neighbours_by fun cdv A outer s H E W as hr => ?_
  have Sc := sc_neighbours_by
  have hu := hr.rm.units
  have hu65 := units65 hr.rm
  have hu1 := units1 hr.rm
  exact (qs_one (qs_ret (px_callTy (cx_tuple rfl) (by rfl) T.n_tuple (by decide +kernel) (px_cons (px_lc (own := [("a", 2), ("b", 3)]) rfl rfl rfl Sc.nd (ix_seq rfl (px_ix rfl (pd_var 0) pd_int)) (by exact blkOk_by (N := N_neighbours_by) (sc := defScope s_neighbours_by) (own := [("a", 2), ("b", 3)]) (by first | decide +kernel | kernel_rfl | rfl)) (fun s1 H1 C1 cl1 fp1 => (pg_tup rfl (pgs_cons (pg_name (i := 2) Sc.nd rfl (by first | exact Or.inl rfl | exact Or.inr rfl)) (pgs_cons (pg_name (i := 3) Sc.nd rfl (by first | exact Or.inl rfl | exact Or.inr rfl)) pgs_nil)))) (tr_tup (tr_cons (tr_name) (tr_cons (tr_name) tr_nil)) (tgCons_len (tgCons_len tgNil_len))) (fun s1 H1 C1 cl1 fp1 g1 hK1 hM1 => (ptsx_one (pt_cmpX (ox_in hK1 hu65) (pd_var 1) (px_tup (px_cons (pd_var 2) (px_cons (pd_var 3) px_nil))) (by rfl)))) (fun s1 H1 C1 cl1 fp1 g1 hK1 hM1 => (px_op ox_sub (px_op (ox_add hK1) (pd_var 2) (pd_var 3)) (pd_var 1)))) px_nil))))
/-! near_by -/
abbrev s_near_by : Stmt := topS 17
abbrev N_near_by : List Str := ["web", "seat"]
abbrev P_near_by : List Str := ["web"]
noncomputable def qnear_by_e1 : DM D := (mBind (lCons (eVar 0) (lCons (eVar 1) lNil)) (callF 2 f_neighbours_by))
noncomputable def m_near_by : DM Fl := (sRet (eLc [1] (iRange1 (lCons (eOp opIx (eVar 0) (eK (.int 0))) lNil)) (tgName 1) (mRet true) qnear_by_e1))
noncomputable def f_near_by : DF := runF 2 m_near_by
theorem sc_near_by : FnScope N_near_by P_near_by (defScope s_near_by) := ⟨rfl, rfl, rfl, by decide +kernel, rfl, by decide +kernel, by decide +kernel⟩
theorem ok_near_by {P : Program} {w : World} {K : PySem.W.Frag} {mg : Str → Option Value} {base : Heap} {a : Addr} {fd : FuncData} (T : Txt mg) (F : Fun K "near_by" "near_by" s_near_by a fd) (C_neighbours_by : Cal P w K mg base 1 "neighbours_by" P_neighbours_by f_neighbours_by) : FnG P w K mg base 2 a fd P_near_by (spM K mg 1 f_near_by) := by
  refine Fun.dl (N := N_near_by) F sc_near_by fun cdv A outer s H E W as hr => ?_
  have Sc := sc_near_by
  have hu := hr.rm.units
  have hu65 := units65 hr.rm
  have hu1 := units1 hr.rm
  exact (qs_one (qs_ret (px_lc (own := [("seat", 1)]) rfl rfl rfl Sc.nd (ix_range1 (by rfl) T.n_range (px_cons (px_ix rfl (pd_var 0) pd_int) px_nil)) (by exact blkOk_by (N := N_near_by) (sc := defScope s_near_by) (own := [("seat", 1)]) (by first | decide +kernel | kernel_rfl | rfl)) (fun s1 H1 C1 cl1 fp1 => (pg_name (i := 1) Sc.nd rfl (by first | exact Or.inl rfl | exact Or.inr rfl))) (tr_name) (fun s1 H1 C1 cl1 fp1 g1 hK1 hM1 => ptsx_nil) (fun s1 H1 C1 cl1 fp1 g1 hK1 hM1 => (px_callC C_neighbours_by hr (by rfl) hK1 hM1 takes0 (px_cons (pd_var 0) (px_cons (pd_var 1) px_nil)))))))
/-! steps_by -/
abbrev s_steps_by : Stmt := topS 18
abbrev N_steps_by : List Str := ["web", "seats", "near", "found", "waiting", "here", "other", "seat"]
abbrev P_steps_by : List Str := ["web", "seats"]
noncomputable def qsteps_by_k1 : DM D := (eVar 7)
noncomputable def qsteps_by_v2 : DM D := (eK (.int 0))
noncomputable def qsteps_by_b3 : DM Fl := (sIf (eTest (eOp (opDIn true) (eVar 6) (eVar 3))) (sSeq (sDPutD (eVar 3) (eVar 6) (eOp opAdd (eOp opDIx (eVar 3) (eVar 5)) (eK (.int 1))))
    (sExpr (eMeth "list" mAppend (eVar 4) (lCons (eVar 6) lNil)))) sNext)
noncomputable def qsteps_by_b4 : DM Fl := (sSeq (sStarM 1 (tgCons (tgName 5) (tgCons (tgName 4) tgNil)) (eVar 4))
    (sFor [6] (iSeq (eOp opIx (eVar 2) (eVar 5))) (tgName 6) qsteps_by_b3))
noncomputable def qsteps_by_c5 : DM Bool := (eTest (eOp (opEq true) (eVar 4) (eLst lNil)))
noncomputable def qsteps_by_e6 : DM D := (eDGet1 (eVar 3) (eVar 7))
noncomputable def m_steps_by : DM Fl := (sSeq (sSet 2 (mBind (lCons (eVar 0) lNil) (callF 1 f_near_by)))
    (sSeq (sSet 3 (eDc [7] (iSeq (eVar 1)) (tgName 7) (mRet true) qsteps_by_k1 qsteps_by_v2))
    (sSeq (sSet 4 (eCall fListM (lCons (eVar 1) lNil)))
    (sSeq (sWhile [5, 6] qsteps_by_c5 qsteps_by_b4)
    (sRet (eCall fTuple (lCons (eLc [7] (iRange1 (lCons (eOp opIx (eVar 0) (eK (.int 0))) lNil)) (tgName 7) (mRet true) qsteps_by_e6) lNil)))))))
noncomputable def f_steps_by : DF := runF 8 m_steps_by
theorem sc_steps_by : FnScope N_steps_by P_steps_by (defScope s_steps_by) := ⟨rfl, rfl, rfl, by decide +kernel, rfl, by decide +kernel, by decide +kernel⟩
theorem ok_steps_by {P : Program} {w : World} {K : PySem.W.Frag} {mg : Str → Option Value} {base : Heap} {a : Addr} {fd : FuncData} (T : Txt mg) (F : Fun K "steps_by" "steps_by" s_steps_by a fd) (C_near_by : Cal P w K mg base 2 "near_by" P_near_by f_near_by) : FnG P w K mg base 3 a fd P_steps_by (spM K mg 2 f_steps_by) := by
  refine Fun.dl (N := N_steps_by) F sc_steps_by fun cdv A outer s H E W as hr => ?_
  have Sc := sc_steps_by
  have hu := hr.rm.units
  have hu65 := units65 hr.rm
  have hu1 := units1 hr.rm
  exact (qs_cons (qs_set (i := 2) Sc.nd rfl (by first | exact Or.inl rfl | exact Or.inr rfl) (px_callC C_near_by hr (by rfl) rfl rfl (takes_of rfl rfl rfl rfl) (px_cons (pd_var 0) px_nil)))
    (qs_cons (qs_set (i := 3) Sc.nd rfl (by first | exact Or.inl rfl | exact Or.inr rfl) (px_dc (own := [("seat", 7)]) rfl rfl rfl Sc.nd (ix_seq rfl (pd_var 1)) (by exact blkOk_by (N := N_steps_by) (sc := defScope s_steps_by) (own := [("seat", 7)]) (by first | decide +kernel | kernel_rfl | rfl)) (fun s1 H1 C1 cl1 fp1 => (pg_name (i := 7) Sc.nd rfl (by first | exact Or.inl rfl | exact Or.inr rfl))) (tr_name) (fun s1 H1 C1 cl1 fp1 g1 hK1 hM1 => ptsx_nil) (fun s1 H1 C1 cl1 fp1 g1 hK1 hM1 => (pd_var 7)) (fun s1 H1 C1 cl1 fp1 g1 hK1 hM1 => pd_int)))
    (qs_cons (qs_set (i := 4) Sc.nd rfl (by first | exact Or.inl rfl | exact Or.inr rfl) (px_callTy (cx_listM rfl) (by rfl) T.n_list (by decide +kernel) (px_cons (pd_var 1) px_nil)))
    (qs_cons (qs_while (passes_of rfl) (pt_cmpX (ox_ne rfl hu) (pd_var 4) (px_lst px_nil) (by rfl)) (qs_cons (qs_starM rfl rfl (pd_var 4) (gx_cons (gx_name (i := 5) Sc.nd rfl (by first | exact Or.inl rfl | exact Or.inr rfl)) (gx_cons (gx_name (i := 4) Sc.nd rfl (by first | exact Or.inl rfl | exact Or.inr rfl)) gx_nil)))
    (qs_one (qs_for (passes_of rfl) rfl (ix_seq rfl (px_ix rfl (pd_var 2) (pd_var 5))) (gx_name (i := 6) Sc.nd rfl (by first | exact Or.inl rfl | exact Or.inr rfl)) (qs_one (qs_if (pt_cmpC (pc_dnotinX hu1 (pd_var 6) (pd_var 3))) (qs_cons (qs_dput hu1 (pd_var 3) (pd_var 6) (px_op (ox_add rfl) (px_dix hu1 (pd_var 3) (pd_var 5)) pd_int))
    (qs_one (qs_expr (px_bm rfl PySem.F.plainAttrs_list PySem.F.slot_list_append PySem.F.type_list_append mx_append (pd_var 4) (px_cons (pd_var 6) px_nil))))) qs_nil))))))
    (qs_one (qs_ret (px_callTy (cx_tuple rfl) (by rfl) T.n_tuple (by decide +kernel) (px_cons (px_lc (own := [("seat", 7)]) rfl rfl rfl Sc.nd (ix_range1 (by rfl) T.n_range (px_cons (px_ix rfl (pd_var 0) pd_int) px_nil)) (by exact blkOk_by (N := N_steps_by) (sc := defScope s_steps_by) (own := [("seat", 7)]) (by first | decide +kernel | kernel_rfl | rfl)) (fun s1 H1 C1 cl1 fp1 => (pg_name (i := 7) Sc.nd rfl (by first | exact Or.inl rfl | exact Or.inr rfl))) (tr_name) (fun s1 H1 C1 cl1 fp1 g1 hK1 hM1 => ptsx_nil) (fun s1 H1 C1 cl1 fp1 g1 hK1 hM1 => (px_dget1 hu1 (pd_var 3) (pd_var 7) ⟨rfl, rfl, rfl, rfl⟩))) px_nil))))))))
/-! neighbours -/
abbrev s_neighbours : Stmt := topS 19
abbrev N_neighbours : List Str := ["web", "seat"]
abbrev P_neighbours : List Str := ["web", "seat"]
noncomputable def m_neighbours : DM Fl := (sSeq (sExpr (mBind (lCons (eVar 0) lNil) (callF 1 f_need_web)))
    (sSeq (sExpr (mBind (lCons (eVar 0) (lCons (eVar 1) lNil)) (callF 2 f_need_seat)))
    (sRet (mBind (lCons (eVar 0) (lCons (eVar 1) lNil)) (callF 2 f_neighbours_by)))))
noncomputable def f_neighbours : DF := runF 2 m_neighbours
theorem sc_neighbours : FnScope N_neighbours P_neighbours (defScope s_neighbours) := ⟨rfl, rfl, rfl, by decide +kernel, rfl, by decide +kernel, by decide +kernel⟩
theorem ok_neighbours {P : Program} {w : World} {K : PySem.W.Frag} {mg : Str → Option Value} {base : Heap} {a : Addr} {fd : FuncData} (T : Txt mg) (F : Fun K "neighbours" "neighbours" s_neighbours a fd) (C_need_web : Cal P w K mg base 6 "need_web" P_need_web f_need_web) (C_need_seat : Cal P w K mg base 6 "need_seat" P_need_seat f_need_seat) (C_neighbours_by : Cal P w K mg base 6 "neighbours_by" P_neighbours_by f_neighbours_by) : FnG P w K mg base 7 a fd P_neighbours (spM K mg 2 f_neighbours) := by
  refine Fun.dl (N := N_neighbours) F sc_neighbours fun cdv A outer s H E W as hr => ?_
  have Sc := sc_neighbours
  have hu := hr.rm.units
  have hu65 := units65 hr.rm
  have hu1 := units1 hr.rm
  exact (qs_cons (qs_expr (px_callC C_need_web hr (by rfl) rfl rfl (takes_of rfl rfl rfl rfl) (px_cons (pd_var 0) px_nil)))
    (qs_cons (qs_expr (px_callC C_need_seat hr (by rfl) rfl rfl (takes_of rfl rfl rfl rfl) (px_cons (pd_var 0) (px_cons (pd_var 1) px_nil))))
    (qs_one (qs_ret (px_callC C_neighbours_by hr (by rfl) rfl rfl (takes_of rfl rfl rfl rfl) (px_cons (pd_var 0) (px_cons (pd_var 1) px_nil)))))))
/-! steps -/
abbrev s_steps : Stmt := topS 20
abbrev N_steps : List Str := ["web", "seat", "other"]
abbrev P_steps : List Str := ["web", "seat", "other"]
noncomputable def m_steps : DM Fl := (sSeq (sExpr (mBind (lCons (eVar 0) lNil) (callF 1 f_need_web)))
    (sSeq (sExpr (mBind (lCons (eVar 0) (lCons (eVar 1) lNil)) (callF 2 f_need_seat)))
    (sSeq (sExpr (mBind (lCons (eVar 0) (lCons (eVar 2) lNil)) (callF 2 f_need_seat)))
    (sRet (eOp opIx (mBind (lCons (eVar 0) (lCons (eTup (lCons (eVar 1) lNil)) lNil)) (callF 2 f_steps_by)) (eVar 2))))))
noncomputable def f_steps : DF := runF 3 m_steps
theorem sc_steps : FnScope N_steps P_steps (defScope s_steps) := ⟨rfl, rfl, rfl, by decide +kernel, rfl, by decide +kernel, by decide +kernel⟩
theorem ok_steps {P : Program} {w : World} {K : PySem.W.Frag} {mg : Str → Option Value} {base : Heap} {a : Addr} {fd : FuncData} (T : Txt mg) (F : Fun K "steps" "steps" s_steps a fd) (C_need_web : Cal P w K mg base 6 "need_web" P_need_web f_need_web) (C_need_seat : Cal P w K mg base 6 "need_seat" P_need_seat f_need_seat) (C_steps_by : Cal P w K mg base 6 "steps_by" P_steps_by f_steps_by) : FnG P w K mg base 7 a fd P_steps (spM K mg 3 f_steps) := by
  refine Fun.dl (N := N_steps) F sc_steps fun cdv A outer s H E W as hr => ?_
  have Sc := sc_steps
  have hu := hr.rm.units
  have hu65 := units65 hr.rm
  have hu1 := units1 hr.rm
  exact (qs_cons (qs_expr (px_callC C_need_web hr (by rfl) rfl rfl (takes_of rfl rfl rfl rfl) (px_cons (pd_var 0) px_nil)))
    (qs_cons (qs_expr (px_callC C_need_seat hr (by rfl) rfl rfl (takes_of rfl rfl rfl rfl) (px_cons (pd_var 0) (px_cons (pd_var 1) px_nil))))
    (qs_cons (qs_expr (px_callC C_need_seat hr (by rfl) rfl rfl (takes_of rfl rfl rfl rfl) (px_cons (pd_var 0) (px_cons (pd_var 2) px_nil))))
    (qs_one (qs_ret (px_ix rfl (px_callC C_steps_by hr (by rfl) rfl rfl (takes_of rfl rfl rfl rfl) (px_cons (pd_var 0) (px_cons (px_tup (px_cons (pd_var 1) px_nil)) px_nil))) (pd_var 2)))))))
/-! steps_to -/
abbrev s_steps_to : Stmt := topS 21
abbrev N_steps_to : List Str := ["web", "seats"]
abbrev P_steps_to : List Str := ["web", "seats"]
noncomputable def m_steps_to : DM Fl := (sSeq (sExpr (mBind (lCons (eVar 0) lNil) (callF 1 f_need_web)))
    (sSeq (sExpr (mBind (lCons (eVar 0) (lCons (eVar 1) lNil)) (callF 2 f_need_seats)))
    (sRet (mBind (lCons (eVar 0) (lCons (eVar 1) lNil)) (callF 2 f_steps_by)))))
noncomputable def f_steps_to : DF := runF 2 m_steps_to
theorem sc_steps_to : FnScope N_steps_to P_steps_to (defScope s_steps_to) := ⟨rfl, rfl, rfl, by decide +kernel, rfl, by decide +kernel, by decide +kernel⟩
theorem ok_steps_to {P : Program} {w : World} {K : PySem.W.Frag} {mg : Str → Option Value} {base : Heap} {a : Addr} {fd : FuncData} (T : Txt mg) (F : Fun K "steps_to" "steps_to" s_steps_to a fd) (C_need_web : Cal P w K mg base 6 "need_web" P_need_web f_need_web) (C_need_seats : Cal P w K mg base 6 "need_seats" P_need_seats f_need_seats) (C_steps_by : Cal P w K mg base 6 "steps_by" P_steps_by f_steps_by) : FnG P w K mg base 7 a fd P_steps_to (spM K mg 2 f_steps_to) := by
  refine Fun.dl (N := N_steps_to) F sc_steps_to fun cdv A outer s H E W as hr => ?_
  have Sc := sc_steps_to
  have hu := hr.rm.units
  have hu65 := units65 hr.rm
  have hu1 := units1 hr.rm
  exact (qs_cons (qs_expr (px_callC C_need_web hr (by rfl) rfl rfl (takes_of rfl rfl rfl rfl) (px_cons (pd_var 0) px_nil)))
    (qs_cons (qs_expr (px_callC C_need_seats hr (by rfl) rfl rfl (takes_of rfl rfl rfl rfl) (px_cons (pd_var 0) (px_cons (pd_var 1) px_nil))))
    (qs_one (qs_ret (px_callC C_steps_by hr (by rfl) rfl rfl (takes_of rfl rfl rfl rfl) (px_cons (pd_var 0) (px_cons (pd_var 1) px_nil)))))))
/-! within -/
abbrev s_within : Stmt := topS 22
abbrev N_within : List Str := ["web", "seat", "far", "found", "other"]
abbrev P_within : List Str := ["web", "seat", "far"]
noncomputable def qwithin_t1 : DM Bool := (bAnd (eTest (eOp (opIs true) (eOp opIx (eVar 3) (eVar 4)) (eK .non))) (eTest (eOp (opCmpI fun i j => decide (i ≤ j)) (eOp opIx (eVar 3) (eVar 4)) (eVar 2))))
noncomputable def qwithin_e2 : DM D := (eVar 4)
noncomputable def m_within : DM Fl := (sSeq (sExpr (mBind (lCons (eVar 0) lNil) (callF 1 f_need_web)))
    (sSeq (sExpr (mBind (lCons (eVar 0) (lCons (eVar 1) lNil)) (callF 2 f_need_seat)))
    (sSeq (sIf (bOr (bNot (eTru (mBind (lCons (eVar 2) lNil) (callF 1 f_is_whole)))) (eTest (eOp opLt (eVar 2) (eK (.int 0))))) sNever sNext)
    (sSeq (sSet 3 (mBind (lCons (eVar 0) (lCons (eTup (lCons (eVar 1) lNil)) lNil)) (callF 2 f_steps_by)))
    (sRet (eCall fTuple (lCons (eLc [4] (iRange1 (lCons (eOp opIx (eVar 0) (eK (.int 0))) lNil)) (tgName 4) qwithin_t1 qwithin_e2) lNil)))))))
noncomputable def f_within : DF := runF 5 m_within
theorem sc_within : FnScope N_within P_within (defScope s_within) := ⟨rfl, rfl, rfl, by decide +kernel, rfl, by decide +kernel, by decide +kernel⟩
theorem ok_within {P : Program} {w : World} {K : PySem.W.Frag} {mg : Str → Option Value} {base : Heap} {a : Addr} {fd : FuncData} (T : Txt mg) (F : Fun K "within" "within" s_within a fd) (C_need_web : Cal P w K mg base 6 "need_web" P_need_web f_need_web) (C_need_seat : Cal P w K mg base 6 "need_seat" P_need_seat f_need_seat) (C_is_whole : Cal P w K mg base 6 "is_whole" P_is_whole f_is_whole) (C_steps_by : Cal P w K mg base 6 "steps_by" P_steps_by f_steps_by) : FnG P w K mg base 7 a fd P_within (spM K mg 3 f_within) := by
  refine Fun.dl (N := N_within) F sc_within fun cdv A outer s H E W as hr => ?_
  have Sc := sc_within
  have hu := hr.rm.units
  have hu65 := units65 hr.rm
  have hu1 := units1 hr.rm
  exact (qs_cons (qs_expr (px_callC C_need_web hr (by rfl) rfl rfl (takes_of rfl rfl rfl rfl) (px_cons (pd_var 0) px_nil)))
    (qs_cons (qs_expr (px_callC C_need_seat hr (by rfl) rfl rfl (takes_of rfl rfl rfl rfl) (px_cons (pd_var 0) (px_cons (pd_var 1) px_nil))))
    (qs_cons (qs_if (PW.pt (pw_orX (pt_notX (pt_tru rfl (px_callC C_is_whole hr (by rfl) rfl rfl (takes_of rfl rfl rfl rfl) (px_cons (pd_var 2) px_nil)))) (pw_or1X (pt_cmpX (ox_lt rfl hu) (pd_var 2) pd_int (by rfl))))) (qs_one qs_never) qs_nil)
    (qs_cons (qs_set (i := 3) Sc.nd rfl (by first | exact Or.inl rfl | exact Or.inr rfl) (px_callC C_steps_by hr (by rfl) rfl rfl (takes_of rfl rfl rfl rfl) (px_cons (pd_var 0) (px_cons (px_tup (px_cons (pd_var 1) px_nil)) px_nil))))
    (qs_one (qs_ret (px_callTy (cx_tuple rfl) (by rfl) T.n_tuple (by decide +kernel) (px_cons (px_lc (own := [("other", 4)]) rfl rfl rfl Sc.nd (ix_range1 (by rfl) T.n_range (px_cons (px_ix rfl (pd_var 0) pd_int) px_nil)) (by exact blkOk_by (N := N_within) (sc := defScope s_within) (own := [("other", 4)]) (by first | decide +kernel | kernel_rfl | rfl)) (fun s1 H1 C1 cl1 fp1 => (pg_name (i := 4) Sc.nd rfl (by first | exact Or.inl rfl | exact Or.inr rfl))) (tr_name) (fun s1 H1 C1 cl1 fp1 g1 hK1 hM1 => (ptsx_one (PW.pt (pw_andX (pt_cmpX ox_isnot (px_ix hK1 (pd_var 3) (pd_var 4)) pd_non (by rfl)) (pw_and1X (pt_cmpX ox_le (px_ix hK1 (pd_var 3) (pd_var 4)) (pd_var 2) (by rfl))))))) (fun s1 H1 C1 cl1 fp1 g1 hK1 hM1 => (pd_var 4))) px_nil))))))))
/-! _law_pool -/
abbrev s__law_pool : Stmt := topS 24
abbrev N__law_pool : List Str := ["cells", "k", "cell", "great", "mixed"]
abbrev P__law_pool : List Str := ["cells", "k"]
noncomputable def m__law_pool : DM Fl := (sSeq (sSet 2 (eIf (eTest (eOp opLt (eVar 1) (eCall fLen (lCons (eVar 0) lNil)))) (eOp opIx (eVar 0) (eVar 1)) (eK (.int 0))))
    (sSeq (sSet 3 (eCall fAbs (lCons (eVar 2) lNil)))
    (sSeq (sSet 4 (eOp opMod (eOp opAdd (eOp opAdd (eOp opAdd (eOp opMul2 (eOp opMod (eVar 3) (eK (.int 2147483629))) (eK (.int 48271))) (eOp opMul2 (eK (.int 977)) (eVar 1))) (eOp opMul2 (eK (.int 2)) (eCall fInt (lCons (eOp opLt (eVar 2) (eK (.int 0))) lNil)))) (eK (.int 5))) (eK (.int 2147483647))))
    (sRet (eLstM (lCons (eIf (eTest (eOp (opCmpI fun i j => decide (j ≤ i)) (eVar 3) (eOp opPow (eK (.int 10)) (eK (.int 18))))) (eOp opSub (eVar 3) (eOp opPow (eK (.int 10)) (eK (.int 18)))) (eK (.int 0))) (lCons (eVar 4) (lCons (eK (.int 0)) lNil))))))))
noncomputable def f__law_pool : DF := runFM 5 m__law_pool
theorem sc__law_pool : FnScope N__law_pool P__law_pool (defScope s__law_pool) := ⟨rfl, rfl, rfl, by decide +kernel, rfl, by decide +kernel, by decide +kernel⟩
theorem ok__law_pool {P : Program} {w : World} {K : PySem.W.Frag} {mg : Str → Option Value} {base : Heap} {a : Addr} {fd : FuncData} (T : Txt mg) (F : Fun K "_law_pool" "_law_pool" s__law_pool a fd) : FnG P w K mg base 1 a fd P__law_pool (spM K mg 2 f__law_pool) := by
  refine Fun.dlM (N := N__law_pool) F sc__law_pool fun cdv A outer s H E W as hr => ?_
  have Sc := sc__law_pool
  have hu := hr.rm.units
  have hu65 := units65 hr.rm
  have hu1 := units1 hr.rm
  exact (qs_cons (qs_set (i := 2) Sc.nd rfl (by first | exact Or.inl rfl | exact Or.inr rfl) (px_ifExp (pt_cmpX (ox_lt rfl hu) (pd_var 1) (px_callB (cx_len rfl) (by rfl) T.n_len (by decide +kernel) (px_cons (pd_var 0) px_nil)) (by rfl)) (px_ix rfl (pd_var 0) (pd_var 1)) pd_int))
    (qs_cons (qs_set (i := 3) Sc.nd rfl (by first | exact Or.inl rfl | exact Or.inr rfl) (px_callB cx_abs (by rfl) T.n_abs (by decide +kernel) (px_cons (pd_var 2) px_nil)))
    (qs_cons (qs_set (i := 4) Sc.nd rfl (by first | exact Or.inl rfl | exact Or.inr rfl) (px_op ox_mod (px_op (ox_add rfl) (px_op (ox_add rfl) (px_op (ox_add rfl) (px_op (ox_mul2 rfl) (px_op ox_mod (pd_var 3) pd_int) pd_int) (px_op (ox_mul2 rfl) pd_int (pd_var 1))) (px_op (ox_mul2 rfl) pd_int (px_callTy cx_int (by rfl) T.n_int (by decide +kernel) (px_cons (px_cmp (ox_lt rfl hu) (pd_var 2) pd_int (by rfl)) px_nil)))) pd_int) pd_int))
    (qs_one (qs_ret (px_lstM (px_cons (px_ifExp (pt_cmpX ox_ge (pd_var 3) (px_op ox_pow pd_int pd_int) (by rfl)) (px_op ox_sub (pd_var 3) (px_op ox_pow pd_int pd_int)) pd_int) (px_cons (pd_var 4) (px_cons pd_int px_nil)))))))))
/-! _law_take -/
abbrev s__law_take : Stmt := topS 25
abbrev N__law_take : List Str := ["pool", "many", "found", "one", "two"]
abbrev P__law_take : List Str := ["pool", "many"]
noncomputable def m__law_take : DM Fl := (sSeq (sIf (eTest (eOp (opCmpI fun i j => decide (j < i)) (eOp opIx (eVar 0) (eK (.int 0))) (eK (.int 0)))) (sSeq (sSet 2 (eOp opMod (eOp opIx (eVar 0) (eK (.int 0))) (eVar 1)))
    (sSeq (sSetIx (eVar 0) (eK (.int 0)) (eOp opDiv (eOp opIx (eVar 0) (eK (.int 0))) (eVar 1)))
    (sRet (eVar 2)))) sNext)
    (sSeq (sSetIx (eVar 0) (eK (.int 2)) (eOp opAdd (eOp opIx (eVar 0) (eK (.int 2))) (eK (.int 1))))
    (sSeq (sSet 3 (eOp opMod (eOp opAdd (eOp opIx (eVar 0) (eK (.int 1))) (eOp opMul2 (eK (.int 1000003)) (eOp opIx (eVar 0) (eK (.int 2))))) (eK (.int 2305843009213693951))))
    (sSeq (sSet 4 (eOp opMod (eOp opAdd (eOp opMul2 (eOp opMod (eOp opMul2 (eVar 3) (eVar 3)) (eK (.int 2305843009213693921))) (eVar 3)) (eOp opMul2 (eK (.int 8191)) (eOp opIx (eVar 0) (eK (.int 2))))) (eK (.int 2305843009213693907))))
    (sRet (eOp opMod (eOp opDiv (eVar 4) (eK (.int 4096))) (eVar 1)))))))
noncomputable def f__law_take : DF := runF 5 m__law_take
theorem sc__law_take : FnScope N__law_take P__law_take (defScope s__law_take) := ⟨rfl, rfl, rfl, by decide +kernel, rfl, by decide +kernel, by decide +kernel⟩
theorem ok__law_take {P : Program} {w : World} {K : PySem.W.Frag} {mg : Str → Option Value} {base : Heap} {a : Addr} {fd : FuncData} (T : Txt mg) (F : Fun K "_law_take" "_law_take" s__law_take a fd) : FnG P w K mg base 1 a fd P__law_take (spM K mg 2 f__law_take) := by
  refine Fun.dl (N := N__law_take) F sc__law_take fun cdv A outer s H E W as hr => ?_
  have Sc := sc__law_take
  have hu := hr.rm.units
  have hu65 := units65 hr.rm
  have hu1 := units1 hr.rm
  exact (qs_cons (qs_if (pt_cmpX ox_gt (px_ix rfl (pd_var 0) pd_int) pd_int (by rfl)) (qs_cons (qs_set (i := 2) Sc.nd rfl (by first | exact Or.inl rfl | exact Or.inr rfl) (px_op ox_mod (px_ix rfl (pd_var 0) pd_int) (pd_var 1)))
    (qs_cons (qs_setIx (pd_var 0) pd_int (px_op ox_div (px_ix rfl (pd_var 0) pd_int) (pd_var 1)))
    (qs_one (qs_ret (pd_var 2))))) qs_nil)
    (qs_cons (qs_setIx (pd_var 0) pd_int (px_op (ox_add rfl) (px_ix rfl (pd_var 0) pd_int) pd_int))
    (qs_cons (qs_set (i := 3) Sc.nd rfl (by first | exact Or.inl rfl | exact Or.inr rfl) (px_op ox_mod (px_op (ox_add rfl) (px_ix rfl (pd_var 0) pd_int) (px_op (ox_mul2 rfl) pd_int (px_ix rfl (pd_var 0) pd_int))) pd_int))
    (qs_cons (qs_set (i := 4) Sc.nd rfl (by first | exact Or.inl rfl | exact Or.inr rfl) (px_op ox_mod (px_op (ox_add rfl) (px_op (ox_mul2 rfl) (px_op ox_mod (px_op (ox_mul2 rfl) (pd_var 3) (pd_var 3)) pd_int) (pd_var 3)) (px_op (ox_mul2 rfl) pd_int (px_ix rfl (pd_var 0) pd_int))) pd_int))
    (qs_one (qs_ret (px_op ox_mod (px_op ox_div (pd_var 4) pd_int) (pd_var 1))))))))
/-! _law_any_web -/
abbrev s__law_any_web : Stmt := topS 26
abbrev N__law_any_web : List Str := ["pool", "most", "many", "way", "ties", "b", "a", "is_in"]
abbrev P__law_any_web : List Str := ["pool", "most"]
noncomputable def q_law_any_web_b1 : DM Fl := (sSeq (sIf (eTest (eOp (opEq false) (eVar 3) (eK (.int 0)))) (sSet 7 (eOp (opEq false) (eVar 5) (eOp opAdd (eVar 6) (eK (.int 1))))) (sIf (eTest (eOp (opEq false) (eVar 3) (eK (.int 1)))) (sSet 7 (eOr (eOp (opEq false) (eVar 5) (eOp opAdd (eVar 6) (eK (.int 1)))) (eOp (opEq false) (eTup (lCons (eVar 6) (lCons (eVar 5) lNil))) (eTup (lCons (eK (.int 0)) (lCons (eOp opSub (eVar 2) (eK (.int 1))) lNil)))))) (sIf (eTest (eOp (opEq false) (eVar 3) (eK (.int 2)))) (sSet 7 (eOp (opEq false) (eVar 6) (eK (.int 0)))) (sIf (eTest (eOp (opEq false) (eVar 3) (eK (.int 3)))) (sSet 7 (eK (.bl true))) (sIf (eTest (eOp (opEq false) (eVar 3) (eK (.int 4)))) (sSet 7 (eK (.bl false))) (sSet 7 (eOr (eOp (opEq false) (mBind (lCons (eVar 0) (lCons (eK (.int 3)) lNil)) (callF 2 f__law_take)) (eK (.int 0))) (eAnd (eOp (opEq false) (eVar 5) (eOp opAdd (eVar 6) (eK (.int 1)))) (eOp (opEq false) (eVar 3) (eK (.int 5)))))))))))
    (sExpr (eMeth "list" mExtend (eVar 4) (lCons (eOp opMul2 (eLst (lCons (eTup (lCons (eVar 6) (lCons (eVar 5) lNil))) lNil)) (eCall fInt (lCons (eVar 7) lNil))) lNil))))
noncomputable def q_law_any_web_b2 : DM Fl := (sFor [6, 7] (iRange1 (lCons (eVar 5) lNil)) (tgName 6) q_law_any_web_b1)
noncomputable def m__law_any_web : DM Fl := (sSeq (sSet 2 (eOp opAdd (eK (.int 1)) (mBind (lCons (eVar 0) (lCons (eVar 1) lNil)) (callF 2 f__law_take))))
    (sSeq (sSet 3 (mBind (lCons (eVar 0) (lCons (eK (.int 8)) lNil)) (callF 2 f__law_take)))
    (sSeq (sSet 4 (eLstM lNil))
    (sSeq (sFor [5, 6, 7] (iRange1 (lCons (eVar 2) lNil)) (tgName 5) q_law_any_web_b2)
    (sRet (eTup (lCons (eVar 2) (lCons (eCall fTuple (lCons (eCall fSorted (lCons (eVar 4) lNil)) lNil)) lNil))))))))
noncomputable def f__law_any_web : DF := runF 8 m__law_any_web
theorem sc__law_any_web : FnScope N__law_any_web P__law_any_web (defScope s__law_any_web) := ⟨rfl, rfl, rfl, by decide +kernel, rfl, by decide +kernel, by decide +kernel⟩
theorem ok__law_any_web {P : Program} {w : World} {K : PySem.W.Frag} {mg : Str → Option Value} {base : Heap} {a : Addr} {fd : FuncData} (T : Txt mg) (F : Fun K "_law_any_web" "_law_any_web" s__law_any_web a fd) (C__law_take : Cal P w K mg base 1 "_law_take" P__law_take f__law_take) : FnG P w K mg base 2 a fd P__law_any_web (spM K mg 2 f__law_any_web) := by
  refine Fun.dl (N := N__law_any_web) F sc__law_any_web fun cdv A outer s H E W as hr => ?_
  have Sc := sc__law_any_web
  have hu := hr.rm.units
  have hu65 := units65 hr.rm
  have hu1 := units1 hr.rm
  exact (qs_cons (qs_set (i := 2) Sc.nd rfl (by first | exact Or.inl rfl | exact Or.inr rfl) (px_op (ox_add rfl) pd_int (px_callC C__law_take hr (by rfl) rfl rfl (takes_of rfl rfl rfl rfl) (px_cons (pd_var 0) (px_cons (pd_var 1) px_nil)))))
    (qs_cons (qs_set (i := 3) Sc.nd rfl (by first | exact Or.inl rfl | exact Or.inr rfl) (px_callC C__law_take hr (by rfl) rfl rfl (takes_of rfl rfl rfl rfl) (px_cons (pd_var 0) (px_cons pd_int px_nil))))
    (qs_cons (qs_set (i := 4) Sc.nd rfl (by first | exact Or.inl rfl | exact Or.inr rfl) (px_lstM px_nil))
    (qs_cons (qs_for (passes_of rfl) rfl (ix_range1 (by rfl) T.n_range (px_cons (pd_var 2) px_nil)) (gx_name (i := 5) Sc.nd rfl (by first | exact Or.inl rfl | exact Or.inr rfl)) (qs_one (qs_for (passes_of rfl) rfl (ix_range1 (by rfl) T.n_range (px_cons (pd_var 5) px_nil)) (gx_name (i := 6) Sc.nd rfl (by first | exact Or.inl rfl | exact Or.inr rfl)) (qs_cons (qs_if (pt_cmpX (ox_eq rfl hu) (pd_var 3) pd_int (by rfl)) (qs_one (qs_set (i := 7) Sc.nd rfl (by first | exact Or.inl rfl | exact Or.inr rfl) (px_cmp (ox_eq rfl hu) (pd_var 5) (px_op (ox_add rfl) (pd_var 6) pd_int) (by rfl)))) (qs_one (qs_if (pt_cmpX (ox_eq rfl hu) (pd_var 3) pd_int (by rfl)) (qs_one (qs_set (i := 7) Sc.nd rfl (by first | exact Or.inl rfl | exact Or.inr rfl) (px_or rfl (px_cmp (ox_eq rfl hu) (pd_var 5) (px_op (ox_add rfl) (pd_var 6) pd_int) (by rfl)) (px_one (px_cmp (ox_eq rfl hu) (px_tup (px_cons (pd_var 6) (px_cons (pd_var 5) px_nil))) (px_tup (px_cons pd_int (px_cons (px_op ox_sub (pd_var 2) pd_int) px_nil))) (by rfl)))))) (qs_one (qs_if (pt_cmpX (ox_eq rfl hu) (pd_var 3) pd_int (by rfl)) (qs_one (qs_set (i := 7) Sc.nd rfl (by first | exact Or.inl rfl | exact Or.inr rfl) (px_cmp (ox_eq rfl hu) (pd_var 6) pd_int (by rfl)))) (qs_one (qs_if (pt_cmpX (ox_eq rfl hu) (pd_var 3) pd_int (by rfl)) (qs_one (qs_set (i := 7) Sc.nd rfl (by first | exact Or.inl rfl | exact Or.inr rfl) pd_bl)) (qs_one (qs_if (pt_cmpX (ox_eq rfl hu) (pd_var 3) pd_int (by rfl)) (qs_one (qs_set (i := 7) Sc.nd rfl (by first | exact Or.inl rfl | exact Or.inr rfl) pd_bl)) (qs_one (qs_set (i := 7) Sc.nd rfl (by first | exact Or.inl rfl | exact Or.inr rfl) (px_or rfl (px_cmp (ox_eq rfl hu) (px_callC C__law_take hr (by rfl) rfl rfl (takes_of rfl rfl rfl rfl) (px_cons (pd_var 0) (px_cons pd_int px_nil))) pd_int (by rfl)) (px_one (px_and rfl (px_cmp (ox_eq rfl hu) (pd_var 5) (px_op (ox_add rfl) (pd_var 6) pd_int) (by rfl)) (px_one (px_cmp (ox_eq rfl hu) (pd_var 3) pd_int (by rfl)))))))))))))))))
    (qs_one (qs_expr (px_bm rfl PySem.F.plainAttrs_list PySem.F.slot_list_extend PySem.F.type_list_extend mx_extend (pd_var 4) (px_cons (px_op (ox_mul2 rfl) (px_lst (px_cons (px_tup (px_cons (pd_var 6) (px_cons (pd_var 5) px_nil))) px_nil)) (px_callTy cx_int (by rfl) T.n_int (by decide +kernel) (px_cons (pd_var 7) px_nil))) px_nil))))))))
    (qs_one (qs_ret (px_tup (px_cons (pd_var 2) (px_cons (px_callTy (cx_tuple rfl) (by rfl) T.n_tuple (by decide +kernel) (px_cons (px_callB (cx_sorted rfl hu) (by rfl) T.n_sorted (by decide +kernel) (px_cons (pd_var 4) px_nil)) px_nil)) px_nil)))))))))
/-! _law_way_right -/
abbrev s__law_way_right : Stmt := topS 27
abbrev N__law_way_right : List Str := ["web", "seat", "other", "many", "here", "left", "nearer", "near"]
abbrev P__law_way_right : List Str := ["web", "seat", "other"]
noncomputable def q_law_way_right_t1 : DM Bool := (eTest (eOp (opIs true) (mBind (lCons (eVar 0) (lCons (eVar 7) (lCons (eVar 2) lNil))) (callF 3 f_steps)) (eK .non)))
noncomputable def q_law_way_right_e2 : DM D := (eK (.int 1))
noncomputable def q_law_way_right_t3 : DM Bool := (eTest (eOp (opEq false) (mBind (lCons (eVar 0) (lCons (eVar 7) (lCons (eVar 2) lNil))) (callF 3 f_steps)) (eOp opSub (eOp opSub (eVar 3) (eVar 5)) (eK (.int 1)))))
noncomputable def q_law_way_right_e4 : DM D := (eVar 7)
noncomputable def q_law_way_right_e5 : DM D := (mBind (lCons (eVar 0) (lCons (eVar 7) (lCons (eVar 2) lNil))) (callF 3 f_steps))
noncomputable def q_law_way_right_b6 : DM Fl := (sSeq (sSet 6 (mBind (lcAll [7] (iSeq (mBind (lCons (eVar 0) (lCons (eVar 4) lNil)) (callF 2 f_neighbours))) (tgName 7) q_law_way_right_t3 q_law_way_right_e4) mkF))
    (sSeq (sIf (eTest (eOp (opEq false) (eVar 6) (eLst lNil))) (sRet (eK (.bl false))) sNext)
    (sSeq (sIf (eTest (eOp opLt (eCall fMin1 (lCons (eLc [7] (iSeq (mBind (lCons (eVar 0) (lCons (eVar 4) lNil)) (callF 2 f_neighbours))) (tgName 7) (mRet true) q_law_way_right_e5) lNil)) (eOp opSub (eOp opSub (eVar 3) (eVar 5)) (eK (.int 1))))) (sRet (eK (.bl false))) sNext)
    (sSet 4 (eOp opIx (eVar 6) (eK (.int 0)))))))
noncomputable def m__law_way_right : DM Fl := (sSeq (sSet 3 (mBind (lCons (eVar 0) (lCons (eVar 1) (lCons (eVar 2) lNil))) (callF 3 f_steps)))
    (sSeq (sIf (eTest (eOp (opIs false) (eVar 3) (eK .non))) (sRet (eOp (opEq false) (eLc [7] (iSeq (mBind (lCons (eVar 0) (lCons (eVar 1) lNil)) (callF 2 f_neighbours))) (tgName 7) q_law_way_right_t1 q_law_way_right_e2) (eLst lNil))) sNext)
    (sSeq (sSet 4 (eVar 1))
    (sSeq (sFor [5, 6] (iRange1 (lCons (eVar 3) lNil)) (tgName 5) q_law_way_right_b6)
    (sRet (eOp (opEq false) (eVar 4) (eVar 2)))))))
noncomputable def f__law_way_right : DF := runF 8 m__law_way_right
theorem sc__law_way_right : FnScope N__law_way_right P__law_way_right (defScope s__law_way_right) := ⟨rfl, rfl, rfl, by decide +kernel, rfl, by decide +kernel, by decide +kernel⟩
theorem ok__law_way_right {P : Program} {w : World} {K : PySem.W.Frag} {mg : Str → Option Value} {base : Heap} {a : Addr} {fd : FuncData} (T : Txt mg) (F : Fun K "_law_way_right" "_law_way_right" s__law_way_right a fd) (C_steps : Cal P w K mg base 7 "steps" P_steps f_steps) (C_neighbours : Cal P w K mg base 7 "neighbours" P_neighbours f_neighbours) : FnG P w K mg base 8 a fd P__law_way_right (spM K mg 3 f__law_way_right) := by
  refine Fun.dl (N := N__law_way_right) F sc__law_way_right fun cdv A outer s H E W as hr => ?_
  have Sc := sc__law_way_right
  have hu := hr.rm.units
  have hu65 := units65 hr.rm
  have hu1 := units1 hr.rm
  exact (qs_cons (qs_set (i := 3) Sc.nd rfl (by first | exact Or.inl rfl | exact Or.inr rfl) (px_callC C_steps hr (by rfl) rfl rfl (takes_of rfl rfl rfl rfl) (px_cons (pd_var 0) (px_cons (pd_var 1) (px_cons (pd_var 2) px_nil)))))
    (qs_cons (qs_if (pt_cmpX ox_is (pd_var 3) pd_non (by rfl)) (qs_one (qs_ret (px_cmp (ox_eq rfl hu) (px_lc (own := [("near", 7)]) rfl rfl rfl Sc.nd (ix_seq rfl (px_callC C_neighbours hr (by rfl) rfl rfl (takes_of rfl rfl rfl rfl) (px_cons (pd_var 0) (px_cons (pd_var 1) px_nil)))) (by exact blkOk_by (N := N__law_way_right) (sc := defScope s__law_way_right) (own := [("near", 7)]) (by first | decide +kernel | kernel_rfl | rfl)) (fun s1 H1 C1 cl1 fp1 => (pg_name (i := 7) Sc.nd rfl (by first | exact Or.inl rfl | exact Or.inr rfl))) (tr_name) (fun s1 H1 C1 cl1 fp1 g1 hK1 hM1 => (ptsx_one (pt_cmpX ox_isnot (px_callC C_steps hr (by rfl) hK1 hM1 takes0 (px_cons (pd_var 0) (px_cons (pd_var 7) (px_cons (pd_var 2) px_nil)))) pd_non (by rfl)))) (fun s1 H1 C1 cl1 fp1 g1 hK1 hM1 => pd_int)) (px_lst px_nil) (by rfl)))) qs_nil)
    (qs_cons (qs_set (i := 4) Sc.nd rfl (by first | exact Or.inl rfl | exact Or.inr rfl) (pd_var 1))
    (qs_cons (qs_for (passes_of rfl) rfl (ix_range1 (by rfl) T.n_range (px_cons (pd_var 3) px_nil)) (gx_name (i := 5) Sc.nd rfl (by first | exact Or.inl rfl | exact Or.inr rfl)) (qs_cons (qs_setLcG (own := [("near", 7)]) (i := 6) (mk := mkF) (by first | exact .inl rfl | exact .inr rfl) rfl rfl rfl Sc.nd rfl rfl (by rfl) (ix_seq rfl (px_callC C_neighbours hr (by rfl) rfl rfl (takes_of rfl rfl rfl rfl) (px_cons (pd_var 0) (px_cons (pd_var 4) px_nil)))) (by exact blkOk_by (N := N__law_way_right) (sc := defScope s__law_way_right) (own := [("near", 7)]) (by first | decide +kernel | kernel_rfl | rfl)) (fun s1 H1 C1 cl1 fp1 => (pg_name (i := 7) Sc.nd rfl (by first | exact Or.inl rfl | exact Or.inr rfl))) (tr_name) (fun s1 H1 C1 cl1 fp1 g1 hK1 hM1 => (ptsx_one (pt_cmpX (ox_eq hK1 hu) (px_callC C_steps hr (by rfl) hK1 hM1 takes0 (px_cons (pd_var 0) (px_cons (pd_var 7) (px_cons (pd_var 2) px_nil)))) (px_op ox_sub (px_op ox_sub (pd_var 3) (pd_var 5)) pd_int) (by rfl)))) (fun s1 H1 C1 cl1 fp1 g1 hK1 hM1 => (pd_var 7)))
    (qs_cons (qs_if (pt_cmpX (ox_eq rfl hu) (pd_var 6) (px_lst px_nil) (by rfl)) (qs_one (qs_ret pd_bl)) qs_nil)
    (qs_cons (qs_if (pt_cmpX (ox_lt rfl hu) (px_callB (cx_min1 rfl) (by rfl) T.n_min (by decide +kernel) (px_cons (px_lc (own := [("near", 7)]) rfl rfl rfl Sc.nd (ix_seq rfl (px_callC C_neighbours hr (by rfl) rfl rfl (takes_of rfl rfl rfl rfl) (px_cons (pd_var 0) (px_cons (pd_var 4) px_nil)))) (by exact blkOk_by (N := N__law_way_right) (sc := defScope s__law_way_right) (own := [("near", 7)]) (by first | decide +kernel | kernel_rfl | rfl)) (fun s1 H1 C1 cl1 fp1 => (pg_name (i := 7) Sc.nd rfl (by first | exact Or.inl rfl | exact Or.inr rfl))) (tr_name) (fun s1 H1 C1 cl1 fp1 g1 hK1 hM1 => ptsx_nil) (fun s1 H1 C1 cl1 fp1 g1 hK1 hM1 => (px_callC C_steps hr (by rfl) hK1 hM1 takes0 (px_cons (pd_var 0) (px_cons (pd_var 7) (px_cons (pd_var 2) px_nil)))))) px_nil)) (px_op ox_sub (px_op ox_sub (pd_var 3) (pd_var 5)) pd_int) (by rfl)) (qs_one (qs_ret pd_bl)) qs_nil)
    (qs_one (qs_set (i := 4) Sc.nd rfl (by first | exact Or.inl rfl | exact Or.inr rfl) (px_ix rfl (pd_var 6) pd_int)))))))
    (qs_one (qs_ret (px_cmp (ox_eq rfl hu) (pd_var 4) (pd_var 2) (by rfl))))))))
/-! _law_put_beside -/
abbrev s__law_put_beside : Stmt := topS 28
abbrev N__law_put_beside : List Str := ["one", "other", "a", "b"]
abbrev P__law_put_beside : List Str := ["one", "other"]
noncomputable def q_law_put_beside_e1 : DM D := (eTup (lCons (eOp opAdd (eVar 2) (eOp opIx (eVar 0) (eK (.int 0)))) (lCons (eOp opAdd (eVar 3) (eOp opIx (eVar 0) (eK (.int 0)))) lNil)))
noncomputable def m__law_put_beside : DM Fl := (sRet (eTup (lCons (eOp opAdd (eOp opIx (eVar 0) (eK (.int 0))) (eOp opIx (eVar 1) (eK (.int 0)))) (lCons (eOp opAdd (eOp opIx (eVar 0) (eK (.int 1))) (eCall fTuple (lCons (eLc [2, 3] (iSeq (eOp opIx (eVar 1) (eK (.int 1)))) (tgTup (tgCons (tgName 2) (tgCons (tgName 3) tgNil))) (mRet true) q_law_put_beside_e1) lNil))) lNil))))
noncomputable def f__law_put_beside : DF := runF 4 m__law_put_beside
theorem sc__law_put_beside : FnScope N__law_put_beside P__law_put_beside (defScope s__law_put_beside) := ⟨rfl, rfl, rfl, by decide +kernel, rfl, by decide +kernel, by decide +kernel⟩
theorem ok__law_put_beside {P : Program} {w : World} {K : PySem.W.Frag} {mg : Str → Option Value} {base : Heap} {a : Addr} {fd : FuncData} (T : Txt mg) (F : Fun K "_law_put_beside" "_law_put_beside" s__law_put_beside a fd) : FnG P w K mg base 1 a fd P__law_put_beside (spM K mg 2 f__law_put_beside) := by
  refine Fun.dl (N := N__law_put_beside) F sc__law_put_beside fun cdv A outer s H E W as hr => ?_
  have Sc := sc__law_put_beside
  have hu := hr.rm.units
  have hu65 := units65 hr.rm
  have hu1 := units1 hr.rm
  exact (qs_one (qs_ret (px_tup (px_cons (px_op (ox_add rfl) (px_ix rfl (pd_var 0) pd_int) (px_ix rfl (pd_var 1) pd_int)) (px_cons (px_op (ox_add rfl) (px_ix rfl (pd_var 0) pd_int) (px_callTy (cx_tuple rfl) (by rfl) T.n_tuple (by decide +kernel) (px_cons (px_lc (own := [("a", 2), ("b", 3)]) rfl rfl rfl Sc.nd (ix_seq rfl (px_ix rfl (pd_var 1) pd_int)) (by exact blkOk_by (N := N__law_put_beside) (sc := defScope s__law_put_beside) (own := [("a", 2), ("b", 3)]) (by first | decide +kernel | kernel_rfl | rfl)) (fun s1 H1 C1 cl1 fp1 => (pg_tup rfl (pgs_cons (pg_name (i := 2) Sc.nd rfl (by first | exact Or.inl rfl | exact Or.inr rfl)) (pgs_cons (pg_name (i := 3) Sc.nd rfl (by first | exact Or.inl rfl | exact Or.inr rfl)) pgs_nil)))) (tr_tup (tr_cons (tr_name) (tr_cons (tr_name) tr_nil)) (tgCons_len (tgCons_len tgNil_len))) (fun s1 H1 C1 cl1 fp1 g1 hK1 hM1 => ptsx_nil) (fun s1 H1 C1 cl1 fp1 g1 hK1 hM1 => (px_tup (px_cons (px_op (ox_add hK1) (pd_var 2) (px_ix hK1 (pd_var 0) pd_int)) (px_cons (px_op (ox_add hK1) (pd_var 3) (px_ix hK1 (pd_var 0) pd_int)) px_nil))))) px_nil))) px_nil)))))
/-! _law_renamed -/
abbrev s__law_renamed : Stmt := topS 29
abbrev N__law_renamed : List Str := ["web", "names", "a", "b"]
abbrev P__law_renamed : List Str := ["web", "names"]
noncomputable def q_law_renamed_e1 : DM D := (eTup (lCons (eCall fMin2 (lCons (eOp opIx (eVar 1) (eVar 2)) (lCons (eOp opIx (eVar 1) (eVar 3)) lNil))) (lCons (eCall fMax2 (lCons (eOp opIx (eVar 1) (eVar 2)) (lCons (eOp opIx (eVar 1) (eVar 3)) lNil))) lNil)))
noncomputable def m__law_renamed : DM Fl := (sRet (eTup (lCons (eOp opIx (eVar 0) (eK (.int 0))) (lCons (eCall fTuple (lCons (eCall fSorted (lCons (eLc [2, 3] (iSeq (eOp opIx (eVar 0) (eK (.int 1)))) (tgTup (tgCons (tgName 2) (tgCons (tgName 3) tgNil))) (mRet true) q_law_renamed_e1) lNil)) lNil)) lNil))))
noncomputable def f__law_renamed : DF := runF 4 m__law_renamed
theorem sc__law_renamed : FnScope N__law_renamed P__law_renamed (defScope s__law_renamed) := ⟨rfl, rfl, rfl, by decide +kernel, rfl, by decide +kernel, by decide +kernel⟩
theorem ok__law_renamed {P : Program} {w : World} {K : PySem.W.Frag} {mg : Str → Option Value} {base : Heap} {a : Addr} {fd : FuncData} (T : Txt mg) (F : Fun K "_law_renamed" "_law_renamed" s__law_renamed a fd) : FnG P w K mg base 1 a fd P__law_renamed (spM K mg 2 f__law_renamed) := by
  refine Fun.dl (N := N__law_renamed) F sc__law_renamed fun cdv A outer s H E W as hr => ?_
  have Sc := sc__law_renamed
  have hu := hr.rm.units
  have hu65 := units65 hr.rm
  have hu1 := units1 hr.rm
  exact (qs_one (qs_ret (px_tup (px_cons (px_ix rfl (pd_var 0) pd_int) (px_cons (px_callTy (cx_tuple rfl) (by rfl) T.n_tuple (by decide +kernel) (px_cons (px_callB (cx_sorted rfl hu) (by rfl) T.n_sorted (by decide +kernel) (px_cons (px_lc (own := [("a", 2), ("b", 3)]) rfl rfl rfl Sc.nd (ix_seq rfl (px_ix rfl (pd_var 0) pd_int)) (by exact blkOk_by (N := N__law_renamed) (sc := defScope s__law_renamed) (own := [("a", 2), ("b", 3)]) (by first | decide +kernel | kernel_rfl | rfl)) (fun s1 H1 C1 cl1 fp1 => (pg_tup rfl (pgs_cons (pg_name (i := 2) Sc.nd rfl (by first | exact Or.inl rfl | exact Or.inr rfl)) (pgs_cons (pg_name (i := 3) Sc.nd rfl (by first | exact Or.inl rfl | exact Or.inr rfl)) pgs_nil)))) (tr_tup (tr_cons (tr_name) (tr_cons (tr_name) tr_nil)) (tgCons_len (tgCons_len tgNil_len))) (fun s1 H1 C1 cl1 fp1 g1 hK1 hM1 => ptsx_nil) (fun s1 H1 C1 cl1 fp1 g1 hK1 hM1 => (px_tup (px_cons (px_callB (cx_min2 rfl) (by rfl) T.n_min (by decide +kernel) (px_cons (px_ix hK1 (pd_var 1) (pd_var 2)) (px_cons (px_ix hK1 (pd_var 1) (pd_var 3)) px_nil))) (px_cons (px_callB (cx_max2 rfl) (by rfl) T.n_max (by decide +kernel) (px_cons (px_ix hK1 (pd_var 1) (pd_var 2)) (px_cons (px_ix hK1 (pd_var 1) (pd_var 3)) px_nil))) px_nil))))) px_nil)) px_nil)) px_nil)))))
/-! _law_names_right -/
abbrev s__law_names_right : Stmt := topS 30
abbrev N__law_names_right : List Str := ["web", "names", "other", "seat", "near"]
abbrev P__law_names_right : List Str := ["web", "names"]
noncomputable def q_law_names_right_e1 : DM D := (eOp opIx (eVar 1) (eVar 4))
noncomputable def q_law_names_right_e2 : DM D := (eOp opIx (eVar 1) (eVar 4))
noncomputable def q_law_names_right_b3 : DM Fl := (sSeq (sIf (eTest (eOp (opEq true) (eCall fSorted (lCons (eLc [4] (iSeq (mBind (lCons (eVar 0) (lCons (eVar 3) lNil)) (callF 2 f_neighbours))) (tgName 4) (mRet true) q_law_names_right_e1) lNil)) (eCall fList (lCons (mBind (lCons (eVar 2) (lCons (eOp opIx (eVar 1) (eVar 3)) lNil)) (callF 2 f_neighbours)) lNil)))) (sRet (eK (.bl false))) sNext)
    (sSeq (sIf (eTest (eOp (opEq true) (eCall fSorted (lCons (eLc [4] (iSeq (mBind (lCons (eVar 0) (lCons (eVar 3) (lCons (eK (.int 2)) lNil))) (callF 3 f_within))) (tgName 4) (mRet true) q_law_names_right_e2) lNil)) (eCall fList (lCons (mBind (lCons (eVar 2) (lCons (eOp opIx (eVar 1) (eVar 3)) (lCons (eK (.int 2)) lNil))) (callF 3 f_within)) lNil)))) (sRet (eK (.bl false))) sNext)
    (sIf (eTest (eOp (opEq true) (mBind (lCons (eVar 0) (lCons (eVar 3) (lCons (eK (.int 0)) lNil))) (callF 3 f_steps)) (mBind (lCons (eVar 2) (lCons (eOp opIx (eVar 1) (eVar 3)) (lCons (eOp opIx (eVar 1) (eK (.int 0))) lNil))) (callF 3 f_steps)))) (sRet (eK (.bl false))) sNext)))
noncomputable def m__law_names_right : DM Fl := (sSeq (sSet 2 (mBind (lCons (eVar 0) (lCons (eVar 1) lNil)) (callF 2 f__law_renamed)))
    (sSeq (sFor [3] (iRange1 (lCons (eOp opIx (eVar 0) (eK (.int 0))) lNil)) (tgName 3) q_law_names_right_b3)
    (sRet (eOp (opIs false) (mBind (lCons (eVar 2) lNil) (callF 1 f_is_web)) (eK (.bl true))))))
noncomputable def f__law_names_right : DF := runF 5 m__law_names_right
theorem sc__law_names_right : FnScope N__law_names_right P__law_names_right (defScope s__law_names_right) := ⟨rfl, rfl, rfl, by decide +kernel, rfl, by decide +kernel, by decide +kernel⟩
theorem ok__law_names_right {P : Program} {w : World} {K : PySem.W.Frag} {mg : Str → Option Value} {base : Heap} {a : Addr} {fd : FuncData} (T : Txt mg) (F : Fun K "_law_names_right" "_law_names_right" s__law_names_right a fd) (C__law_renamed : Cal P w K mg base 7 "_law_renamed" P__law_renamed f__law_renamed) (C_neighbours : Cal P w K mg base 7 "neighbours" P_neighbours f_neighbours) (C_within : Cal P w K mg base 7 "within" P_within f_within) (C_steps : Cal P w K mg base 7 "steps" P_steps f_steps) (C_is_web : Cal P w K mg base 7 "is_web" P_is_web f_is_web) : FnG P w K mg base 8 a fd P__law_names_right (spM K mg 2 f__law_names_right) := by
  refine Fun.dl (N := N__law_names_right) F sc__law_names_right fun cdv A outer s H E W as hr => ?_
  have Sc := sc__law_names_right
  have hu := hr.rm.units
  have hu65 := units65 hr.rm
  have hu1 := units1 hr.rm
  exact (qs_cons (qs_set (i := 2) Sc.nd rfl (by first | exact Or.inl rfl | exact Or.inr rfl) (px_callC C__law_renamed hr (by rfl) rfl rfl (takes_of rfl rfl rfl rfl) (px_cons (pd_var 0) (px_cons (pd_var 1) px_nil))))
    (qs_cons (qs_for (passes_of rfl) rfl (ix_range1 (by rfl) T.n_range (px_cons (px_ix rfl (pd_var 0) pd_int) px_nil)) (gx_name (i := 3) Sc.nd rfl (by first | exact Or.inl rfl | exact Or.inr rfl)) (qs_cons (qs_if (pt_cmpX (ox_ne rfl hu) (px_callB (cx_sorted rfl hu) (by rfl) T.n_sorted (by decide +kernel) (px_cons (px_lc (own := [("near", 4)]) rfl rfl rfl Sc.nd (ix_seq rfl (px_callC C_neighbours hr (by rfl) rfl rfl (takes_of rfl rfl rfl rfl) (px_cons (pd_var 0) (px_cons (pd_var 3) px_nil)))) (by exact blkOk_by (N := N__law_names_right) (sc := defScope s__law_names_right) (own := [("near", 4)]) (by first | decide +kernel | kernel_rfl | rfl)) (fun s1 H1 C1 cl1 fp1 => (pg_name (i := 4) Sc.nd rfl (by first | exact Or.inl rfl | exact Or.inr rfl))) (tr_name) (fun s1 H1 C1 cl1 fp1 g1 hK1 hM1 => ptsx_nil) (fun s1 H1 C1 cl1 fp1 g1 hK1 hM1 => (px_ix hK1 (pd_var 1) (pd_var 4)))) px_nil)) (px_callTy (cx_list rfl) (by rfl) T.n_list (by decide +kernel) (px_cons (px_callC C_neighbours hr (by rfl) rfl rfl (takes_of rfl rfl rfl rfl) (px_cons (pd_var 2) (px_cons (px_ix rfl (pd_var 1) (pd_var 3)) px_nil))) px_nil)) (by rfl)) (qs_one (qs_ret pd_bl)) qs_nil)
    (qs_cons (qs_if (pt_cmpX (ox_ne rfl hu) (px_callB (cx_sorted rfl hu) (by rfl) T.n_sorted (by decide +kernel) (px_cons (px_lc (own := [("near", 4)]) rfl rfl rfl Sc.nd (ix_seq rfl (px_callC C_within hr (by rfl) rfl rfl (takes_of rfl rfl rfl rfl) (px_cons (pd_var 0) (px_cons (pd_var 3) (px_cons pd_int px_nil))))) (by exact blkOk_by (N := N__law_names_right) (sc := defScope s__law_names_right) (own := [("near", 4)]) (by first | decide +kernel | kernel_rfl | rfl)) (fun s1 H1 C1 cl1 fp1 => (pg_name (i := 4) Sc.nd rfl (by first | exact Or.inl rfl | exact Or.inr rfl))) (tr_name) (fun s1 H1 C1 cl1 fp1 g1 hK1 hM1 => ptsx_nil) (fun s1 H1 C1 cl1 fp1 g1 hK1 hM1 => (px_ix hK1 (pd_var 1) (pd_var 4)))) px_nil)) (px_callTy (cx_list rfl) (by rfl) T.n_list (by decide +kernel) (px_cons (px_callC C_within hr (by rfl) rfl rfl (takes_of rfl rfl rfl rfl) (px_cons (pd_var 2) (px_cons (px_ix rfl (pd_var 1) (pd_var 3)) (px_cons pd_int px_nil)))) px_nil)) (by rfl)) (qs_one (qs_ret pd_bl)) qs_nil)
    (qs_one (qs_if (pt_cmpX (ox_ne rfl hu) (px_callC C_steps hr (by rfl) rfl rfl (takes_of rfl rfl rfl rfl) (px_cons (pd_var 0) (px_cons (pd_var 3) (px_cons pd_int px_nil)))) (px_callC C_steps hr (by rfl) rfl rfl (takes_of rfl rfl rfl rfl) (px_cons (pd_var 2) (px_cons (px_ix rfl (pd_var 1) (pd_var 3)) (px_cons (px_ix rfl (pd_var 1) pd_int) px_nil)))) (by rfl)) (qs_one (qs_ret pd_bl)) qs_nil)))))
    (qs_one (qs_ret (px_cmp ox_is (px_callC C_is_web hr (by rfl) rfl rfl (takes_of rfl rfl rfl rfl) (px_cons (pd_var 2) px_nil)) pd_bl (by rfl))))))
/-! law -/
abbrev s_law : Stmt := topS 31
abbrev N_law : List Str := ["script", "k", "pool", "one", "other", "web", "seat", "last", "more", "third", "place", "ahead", "far", "left", "names", "turn"]
abbrev P_law : List Str := ["script"]
noncomputable def qlaw_b1 : DM Fl := (sSeq (sPar 11 12 (lCons (mBind (lCons (eVar 5) (lCons (eVar 10) (lCons (eVar 9) lNil))) (callF 3 f_steps)) (lCons (mBind (lCons (eVar 8) (lCons (eVar 10) (lCons (eVar 9) lNil))) (callF 3 f_steps)) lNil)))
    (sIf (bAnd (eTest (eOp (opIs true) (eVar 11) (eK .non))) (bOr (eTest (eOp (opIs false) (eVar 12) (eK .non))) (eTest (eOp (opCmpI fun i j => decide (j < i)) (eVar 12) (eVar 11))))) (sRet (eK (.bl false))) sNext))
noncomputable def qlaw_e2 : DM D := (eMeth "list" mPopAt (eVar 13) (lCons (mBind (lCons (eVar 2) (lCons (eCall fLen (lCons (eVar 13) lNil)) lNil)) (callF 2 f__law_take)) lNil))
noncomputable def qlaw_b3 : DM Fl := (sSeq (sSet 2 (mBind (lCons (eVar 0) (lCons (eVar 1) lNil)) (callFM 2 f__law_pool)))
    (sSeq (sPar 3 4 (lCons (mBind (lCons (eVar 2) (lCons (eK (.int 6)) lNil)) (callF 2 f__law_any_web)) (lCons (mBind (lCons (eVar 2) (lCons (eK (.int 6)) lNil)) (callF 2 f__law_any_web)) lNil)))
    (sSeq (sSet 5 (mBind (lCons (eVar 3) (lCons (eVar 4) lNil)) (callF 2 f__law_put_beside)))
    (sSeq (sPar 6 7 (lCons (mBind (lCons (eVar 2) (lCons (eOp opIx (eVar 3) (eK (.int 0))) lNil)) (callF 2 f__law_take)) (lCons (eOp opAdd (eOp opIx (eVar 3) (eK (.int 0))) (mBind (lCons (eVar 2) (lCons (eOp opIx (eVar 4) (eK (.int 0))) lNil)) (callF 2 f__law_take))) lNil)))
    (sSeq (sIf (bOr (eTest (eOp (opIs true) (mBind (lCons (eVar 5) (lCons (eVar 6) (lCons (eVar 7) lNil))) (callF 3 f_steps)) (eK .non))) (eTest (eOp (opIs true) (mBind (lCons (eVar 5) (lCons (eVar 7) (lCons (eVar 6) lNil))) (callF 3 f_steps)) (eK .non)))) (sRet (eK (.bl false))) sNext)
    (sSeq (sIf (eTest (eOp (opEq true) (eSlice (mBind (lCons (eVar 5) (lCons (eTup (lCons (eVar 6) lNil)) lNil)) (callF 2 f_steps_to)) (mRet none) (mBind (eOp opIx (eVar 3) (eK (.int 0))) asI)) (mBind (lCons (eVar 3) (lCons (eTup (lCons (eVar 6) lNil)) lNil)) (callF 2 f_steps_to)))) (sRet (eK (.bl false))) sNext)
    (sSeq (sIf (eTest (eOp (opEq true) (eSlice (mBind (lCons (eVar 5) (lCons (eTup (lCons (eVar 7) lNil)) lNil)) (callF 2 f_steps_to)) (mBind (eOp opIx (eVar 3) (eK (.int 0))) asI) (mRet none)) (mBind (lCons (eVar 4) (lCons (eTup (lCons (eOp opSub (eVar 7) (eOp opIx (eVar 3) (eK (.int 0)))) lNil)) lNil)) (callF 2 f_steps_to)))) (sRet (eK (.bl false))) sNext)
    (sSeq (sSet 8 (eTup (lCons (eOp opIx (eVar 5) (eK (.int 0))) (lCons (eCall fTuple (lCons (eCall fSorted (lCons (eOp opAdd (eOp opIx (eVar 5) (eK (.int 1))) (eTup (lCons (eTup (lCons (eVar 6) (lCons (eVar 7) lNil))) lNil))) lNil)) lNil)) lNil))))
    (sSeq (sSet 9 (mBind (lCons (eVar 2) (lCons (eOp opIx (eVar 5) (eK (.int 0))) lNil)) (callF 2 f__law_take)))
    (sSeq (sFor [10, 11, 12] (iRange1 (lCons (eOp opIx (eVar 5) (eK (.int 0))) lNil)) (tgName 10) qlaw_b1)
    (sSeq (sSet 13 (eRgM1 (eOp opIx (eVar 5) (eK (.int 0)))))
    (sSeq (sSet 14 (mBind (lcAll [15] (iRange1 (lCons (eOp opIx (eVar 5) (eK (.int 0))) lNil)) (tgName 15) (mRet true) qlaw_e2) mkF))
    (sSeq (sIf (bOr (bNot (eTru (mBind (lCons (eVar 8) (lCons (eVar 9) (lCons (eVar 6) lNil))) (callF 3 f__law_way_right)))) (bNot (eTru (mBind (lCons (eVar 5) (lCons (eVar 9) (lCons (eVar 7) lNil))) (callF 3 f__law_way_right))))) (sRet (eK (.bl false))) sNext)
    (sIf (bNot (eTru (mBind (lCons (eVar 8) (lCons (eVar 14) lNil)) (callF 2 f__law_names_right)))) (sRet (eK (.bl false))) sNext))))))))))))))
noncomputable def m_law : DM Fl := (sSeq (sFor [1, 2, 3, 4, 5, 6, 7, 8, 9, 10, 11, 12, 13, 14] (iRange1 (lCons (eCall fMax2 (lCons (eK (.int 1)) (lCons (eCall fMin2 (lCons (eK (.int 8)) (lCons (eCall fLen (lCons (eVar 0) lNil)) lNil))) lNil))) lNil)) (tgName 1) qlaw_b3)
    (sRet (eK (.bl true))))
noncomputable def f_law : DF := runF 16 m_law
theorem sc_law : FnScope N_law P_law (defScope s_law) := ⟨rfl, rfl, rfl, by decide +kernel, rfl, by decide +kernel, by decide +kernel⟩
theorem ok_law {P : Program} {w : World} {K : PySem.W.Frag} {mg : Str → Option Value} {base : Heap} {a : Addr} {fd : FuncData} (T : Txt mg) (F : Fun K "law" "law" s_law a fd) (C__law_pool : Cal P w K mg base 8 "_law_pool" P__law_pool f__law_pool) (C__law_any_web : Cal P w K mg base 8 "_law_any_web" P__law_any_web f__law_any_web) (C__law_put_beside : Cal P w K mg base 8 "_law_put_beside" P__law_put_beside f__law_put_beside) (C__law_take : Cal P w K mg base 8 "_law_take" P__law_take f__law_take) (C_steps : Cal P w K mg base 8 "steps" P_steps f_steps) (C_steps_to : Cal P w K mg base 8 "steps_to" P_steps_to f_steps_to) (C__law_way_right : Cal P w K mg base 8 "_law_way_right" P__law_way_right f__law_way_right) (C__law_names_right : Cal P w K mg base 8 "_law_names_right" P__law_names_right f__law_names_right) : FnG P w K mg base 9 a fd P_law (spM K mg 1 f_law) := by
  refine Fun.dl (N := N_law) F sc_law fun cdv A outer s H E W as hr => ?_
  have Sc := sc_law
  have hu := hr.rm.units
  have hu65 := units65 hr.rm
  have hu1 := units1 hr.rm
  exact (qs_cons (qs_for (passes_of rfl) rfl (ix_range1 (by rfl) T.n_range (px_cons (px_callB (cx_max2 rfl) (by rfl) T.n_max (by decide +kernel) (px_cons pd_int (px_cons (px_callB (cx_min2 rfl) (by rfl) T.n_min (by decide +kernel) (px_cons pd_int (px_cons (px_callB (cx_len rfl) (by rfl) T.n_len (by decide +kernel) (px_cons (pd_var 0) px_nil)) px_nil))) px_nil))) px_nil)) (gx_name (i := 1) Sc.nd rfl (by first | exact Or.inl rfl | exact Or.inr rfl)) (qs_cons (qs_set (i := 2) Sc.nd rfl (by first | exact Or.inl rfl | exact Or.inr rfl) (px_callCM C__law_pool hr (by rfl) rfl rfl (takes_of rfl rfl rfl rfl) (px_cons (pd_var 0) (px_cons (pd_var 1) px_nil))))
    (qs_cons (qs_par (i := 3) (j := 4) rfl Sc.nd rfl rfl (by decide) rfl rfl (px_cons (px_callC C__law_any_web hr (by rfl) rfl rfl (takes_of rfl rfl rfl rfl) (px_cons (pd_var 2) (px_cons pd_int px_nil))) (px_cons (px_callC C__law_any_web hr (by rfl) rfl rfl (takes_of rfl rfl rfl rfl) (px_cons (pd_var 2) (px_cons pd_int px_nil))) px_nil)) rfl)
    (qs_cons (qs_set (i := 5) Sc.nd rfl (by first | exact Or.inl rfl | exact Or.inr rfl) (px_callC C__law_put_beside hr (by rfl) rfl rfl (takes_of rfl rfl rfl rfl) (px_cons (pd_var 3) (px_cons (pd_var 4) px_nil))))
    (qs_cons (qs_par (i := 6) (j := 7) rfl Sc.nd rfl rfl (by decide) rfl rfl (px_cons (px_callC C__law_take hr (by rfl) rfl rfl (takes_of rfl rfl rfl rfl) (px_cons (pd_var 2) (px_cons (px_ix rfl (pd_var 3) pd_int) px_nil))) (px_cons (px_op (ox_add rfl) (px_ix rfl (pd_var 3) pd_int) (px_callC C__law_take hr (by rfl) rfl rfl (takes_of rfl rfl rfl rfl) (px_cons (pd_var 2) (px_cons (px_ix rfl (pd_var 4) pd_int) px_nil)))) px_nil)) rfl)
    (qs_cons (qs_if (PW.pt (pw_orX (pt_cmpX ox_isnot (px_callC C_steps hr (by rfl) rfl rfl (takes_of rfl rfl rfl rfl) (px_cons (pd_var 5) (px_cons (pd_var 6) (px_cons (pd_var 7) px_nil)))) pd_non (by rfl)) (pw_or1X (pt_cmpX ox_isnot (px_callC C_steps hr (by rfl) rfl rfl (takes_of rfl rfl rfl rfl) (px_cons (pd_var 5) (px_cons (pd_var 7) (px_cons (pd_var 6) px_nil)))) pd_non (by rfl))))) (qs_one (qs_ret pd_bl)) qs_nil)
    (qs_cons (qs_if (pt_cmpX (ox_ne rfl hu) (px_sliceT rfl (px_callC C_steps_to hr (by rfl) rfl rfl (takes_of rfl rfl rfl rfl) (px_cons (pd_var 5) (px_cons (px_tup (px_cons (pd_var 6) px_nil)) px_nil))) po_noneX (po_someX (px_ix rfl (pd_var 3) pd_int))) (px_callC C_steps_to hr (by rfl) rfl rfl (takes_of rfl rfl rfl rfl) (px_cons (pd_var 3) (px_cons (px_tup (px_cons (pd_var 6) px_nil)) px_nil))) (by rfl)) (qs_one (qs_ret pd_bl)) qs_nil)
    (qs_cons (qs_if (pt_cmpX (ox_ne rfl hu) (px_sliceT rfl (px_callC C_steps_to hr (by rfl) rfl rfl (takes_of rfl rfl rfl rfl) (px_cons (pd_var 5) (px_cons (px_tup (px_cons (pd_var 7) px_nil)) px_nil))) (po_someX (px_ix rfl (pd_var 3) pd_int)) po_noneX) (px_callC C_steps_to hr (by rfl) rfl rfl (takes_of rfl rfl rfl rfl) (px_cons (pd_var 4) (px_cons (px_tup (px_cons (px_op ox_sub (pd_var 7) (px_ix rfl (pd_var 3) pd_int)) px_nil)) px_nil))) (by rfl)) (qs_one (qs_ret pd_bl)) qs_nil)
    (qs_cons (qs_set (i := 8) Sc.nd rfl (by first | exact Or.inl rfl | exact Or.inr rfl) (px_tup (px_cons (px_ix rfl (pd_var 5) pd_int) (px_cons (px_callTy (cx_tuple rfl) (by rfl) T.n_tuple (by decide +kernel) (px_cons (px_callB (cx_sorted rfl hu) (by rfl) T.n_sorted (by decide +kernel) (px_cons (px_op (ox_add rfl) (px_ix rfl (pd_var 5) pd_int) (px_tup (px_cons (px_tup (px_cons (pd_var 6) (px_cons (pd_var 7) px_nil))) px_nil))) px_nil)) px_nil)) px_nil))))
    (qs_cons (qs_set (i := 9) Sc.nd rfl (by first | exact Or.inl rfl | exact Or.inr rfl) (px_callC C__law_take hr (by rfl) rfl rfl (takes_of rfl rfl rfl rfl) (px_cons (pd_var 2) (px_cons (px_ix rfl (pd_var 5) pd_int) px_nil))))
    (qs_cons (qs_for (passes_of rfl) rfl (ix_range1 (by rfl) T.n_range (px_cons (px_ix rfl (pd_var 5) pd_int) px_nil)) (gx_name (i := 10) Sc.nd rfl (by first | exact Or.inl rfl | exact Or.inr rfl)) (qs_cons (qs_par (i := 11) (j := 12) rfl Sc.nd rfl rfl (by decide) rfl rfl (px_cons (px_callC C_steps hr (by rfl) rfl rfl (takes_of rfl rfl rfl rfl) (px_cons (pd_var 5) (px_cons (pd_var 10) (px_cons (pd_var 9) px_nil)))) (px_cons (px_callC C_steps hr (by rfl) rfl rfl (takes_of rfl rfl rfl rfl) (px_cons (pd_var 8) (px_cons (pd_var 10) (px_cons (pd_var 9) px_nil)))) px_nil)) rfl)
    (qs_one (qs_if (PW.pt (pw_andX (pt_cmpX ox_isnot (pd_var 11) pd_non (by rfl)) (pw_and1X (PW.pt (pw_orX (pt_cmpX ox_is (pd_var 12) pd_non (by rfl)) (pw_or1X (pt_cmpX ox_gt (pd_var 12) (pd_var 11) (by rfl)))))))) (qs_one (qs_ret pd_bl)) qs_nil))))
    (qs_cons (qs_set (i := 13) Sc.nd rfl (by first | exact Or.inl rfl | exact Or.inr rfl) (px_lstRgM1 rfl (by rfl) T.n_list (by rfl) T.n_range (px_ix rfl (pd_var 5) pd_int)))
    (qs_cons (qs_setLcG (own := [("turn", 15)]) (i := 14) (mk := mkF) (by first | exact .inl rfl | exact .inr rfl) rfl rfl rfl Sc.nd rfl rfl (by rfl) (ix_range1 (by rfl) T.n_range (px_cons (px_ix rfl (pd_var 5) pd_int) px_nil)) (by exact blkOk_by (N := N_law) (sc := defScope s_law) (own := [("turn", 15)]) (by first | decide +kernel | kernel_rfl | rfl)) (fun s1 H1 C1 cl1 fp1 => (pg_name (i := 15) Sc.nd rfl (by first | exact Or.inl rfl | exact Or.inr rfl))) (tr_name) (fun s1 H1 C1 cl1 fp1 g1 hK1 hM1 => ptsx_nil) (fun s1 H1 C1 cl1 fp1 g1 hK1 hM1 => (px_bm hK1 PySem.F.plainAttrs_list PySem.F.slot_list_pop PySem.F.type_list_pop mx_popAt (pd_var 13) (px_cons (px_callC C__law_take hr (by rfl) hK1 hM1 takes0 (px_cons (pd_var 2) (px_cons (px_callB (cx_len hK1) (by rfl) T.n_len (by decide +kernel) (px_cons (pd_var 13) px_nil)) px_nil))) px_nil))))
    (qs_cons (qs_if (PW.pt (pw_orX (pt_notX (pt_tru rfl (px_callC C__law_way_right hr (by rfl) rfl rfl (takes_of rfl rfl rfl rfl) (px_cons (pd_var 8) (px_cons (pd_var 9) (px_cons (pd_var 6) px_nil)))))) (pw_or1X (pt_notX (pt_tru rfl (px_callC C__law_way_right hr (by rfl) rfl rfl (takes_of rfl rfl rfl rfl) (px_cons (pd_var 5) (px_cons (pd_var 9) (px_cons (pd_var 7) px_nil))))))))) (qs_one (qs_ret pd_bl)) qs_nil)
    (qs_one (qs_if (pt_notX (pt_tru rfl (px_callC C__law_names_right hr (by rfl) rfl rfl (takes_of rfl rfl rfl rfl) (px_cons (pd_var 8) (px_cons (pd_var 14) px_nil))))) (qs_one (qs_ret pd_bl)) qs_nil))))))))))))))))
    (qs_one (qs_ret pd_bl)))
/-! what the top has written, the head -/
section
variable {w : World} {K : PySem.W.Frag} {h : Heap} {mg : Str → Option Value}
structure Top (K : PySem.W.Frag) (mg : Str → Option Value) (a0 a1 a2 a3 a4 a5 a6 a7 a8 a9 a10 a11 a12 a13 a14 a15 a16 a17 a18 a19 a20 a21 a22 a23 : Addr) : Prop where
  txt : Txt mg
  m0 : mg "is_whole" = some (.ref a0)
  u0 : ∃ fd, Fun K "is_whole" "is_whole" s_is_whole a0 fd
  m1 : mg "is_below" = some (.ref a1)
  u1 : ∃ fd, Fun K "is_below" "is_below" s_is_below a1 fd
  m2 : mg "are_below" = some (.ref a2)
  u2 : ∃ fd, Fun K "are_below" "are_below" s_are_below a2 fd
  m3 : mg "are_rising" = some (.ref a3)
  u3 : ∃ fd, Fun K "are_rising" "are_rising" s_are_rising a3 fd
  m4 : mg "is_tie" = some (.ref a4)
  u4 : ∃ fd, Fun K "is_tie" "is_tie" s_is_tie a4 fd
  m5 : mg "is_web" = some (.ref a5)
  u5 : ∃ fd, Fun K "is_web" "is_web" s_is_web a5 fd
  m6 : mg "need_web" = some (.ref a6)
  u6 : ∃ fd, Fun K "need_web" "need_web" s_need_web a6 fd
  m7 : mg "need_seat" = some (.ref a7)
  u7 : ∃ fd, Fun K "need_seat" "need_seat" s_need_seat a7 fd
  m8 : mg "need_seats" = some (.ref a8)
  u8 : ∃ fd, Fun K "need_seats" "need_seats" s_need_seats a8 fd
  m9 : mg "neighbours_by" = some (.ref a9)
  u9 : ∃ fd, Fun K "neighbours_by" "neighbours_by" s_neighbours_by a9 fd
  m10 : mg "near_by" = some (.ref a10)
  u10 : ∃ fd, Fun K "near_by" "near_by" s_near_by a10 fd
  m11 : mg "steps_by" = some (.ref a11)
  u11 : ∃ fd, Fun K "steps_by" "steps_by" s_steps_by a11 fd
  m12 : mg "neighbours" = some (.ref a12)
  u12 : ∃ fd, Fun K "neighbours" "neighbours" s_neighbours a12 fd
  m13 : mg "steps" = some (.ref a13)
  u13 : ∃ fd, Fun K "steps" "steps" s_steps a13 fd
  m14 : mg "steps_to" = some (.ref a14)
  u14 : ∃ fd, Fun K "steps_to" "steps_to" s_steps_to a14 fd
  m15 : mg "within" = some (.ref a15)
  u15 : ∃ fd, Fun K "within" "within" s_within a15 fd
  m16 : mg "_law_pool" = some (.ref a16)
  u16 : ∃ fd, Fun K "_law_pool" "_law_pool" s__law_pool a16 fd
  m17 : mg "_law_take" = some (.ref a17)
  u17 : ∃ fd, Fun K "_law_take" "_law_take" s__law_take a17 fd
  m18 : mg "_law_any_web" = some (.ref a18)
  u18 : ∃ fd, Fun K "_law_any_web" "_law_any_web" s__law_any_web a18 fd
  m19 : mg "_law_way_right" = some (.ref a19)
  u19 : ∃ fd, Fun K "_law_way_right" "_law_way_right" s__law_way_right a19 fd
  m20 : mg "_law_put_beside" = some (.ref a20)
  u20 : ∃ fd, Fun K "_law_put_beside" "_law_put_beside" s__law_put_beside a20 fd
  m21 : mg "_law_renamed" = some (.ref a21)
  u21 : ∃ fd, Fun K "_law_renamed" "_law_renamed" s__law_renamed a21 fd
  m22 : mg "_law_names_right" = some (.ref a22)
  u22 : ∃ fd, Fun K "_law_names_right" "_law_names_right" s__law_names_right a22 fd
  m23 : mg "law" = some (.ref a23)
  u23 : ∃ fd, Fun K "law" "law" s_law a23 fd
theorem top_mk {a0 a1 a2 a3 a4 a5 a6 a7 a8 a9 a10 a11 a12 a13 a14 a15 a16 a17 a18 a19 a20 a21 a22 a23 : Addr} (X : K.In h) (G : h.Ns mainGlobals mg) {od0 an0 od1 an1 od2 an2 od3 an3 od4 an4 od5 an5 od6 an6 od7 an7 od8 an8 od9 an9 od10 an10 od11 an11 od12 an12 od13 an13 od14 an14 od15 an15 od16 an16 od17 an17 od18 an18 od19 an19 od20 an20 od21 an21 od22 an22 od23 an23 : Option Addr} {sl0 sl1 sl2 sl3 sl4 sl5 sl6 sl7 sl8 sl9 sl10 sl11 sl12 sl13 sl14 sl15 sl16 sl17 sl18 sl19 sl20 sl21 sl22 sl23 : Array (Option Value)} {oc0 kV0 dc0 pm0 cd0 ct0 oc1 kV1 dc1 pm1 cd1 ct1 oc2 kV2 dc2 pm2 cd2 ct2 oc3 kV3 dc3 pm3 cd3 ct3 oc4 kV4 dc4 pm4 cd4 ct4 oc5 kV5 dc5 pm5 cd5 ct5 oc6 kV6 dc6 pm6 cd6 ct6 oc7 kV7 dc7 pm7 cd7 ct7 oc8 kV8 dc8 pm8 cd8 ct8 oc9 kV9 dc9 pm9 cd9 ct9 oc10 kV10 dc10 pm10 cd10 ct10 oc11 kV11 dc11 pm11 cd11 ct11 oc12 kV12 dc12 pm12 cd12 ct12 oc13 kV13 dc13 pm13 cd13 ct13 oc14 kV14 dc14 pm14 cd14 ct14 oc15 kV15 dc15 pm15 cd15 ct15 oc16 kV16 dc16 pm16 cd16 ct16 oc17 kV17 dc17 pm17 cd17 ct17 oc18 kV18 dc18 pm18 cd18 ct18 oc19 kV19 dc19 pm19 cd19 ct19 oc20 kV20 dc20 pm20 cd20 ct20 oc21 kV21 dc21 pm21 cd21 ct21 oc22 kV22 dc22 pm22 cd22 ct22 oc23 kV23 dc23 pm23 cd23 ct23 : Value} {ty_MOST_SEATS : Tok}
    (g0 : PySem.W.nsIn K mainGlobals "is_whole" = some (some (.ref a0))) (l0 : K.lookup a0 = some ⟨oc0, od0, .func (PySem.W.fnOf "is_whole" "is_whole" (defArgs s_is_whole) (defBody s_is_whole) (defScope s_is_whole) .none kV0 dc0 pm0 an0 cd0 ct0), sl0⟩) (c0 : PySem.W.codeIn K cd0 "is_whole" = true) (k0 : PySem.W.keepIn K (.ref a0) = true)
    (g1 : PySem.W.nsIn K mainGlobals "is_below" = some (some (.ref a1))) (l1 : K.lookup a1 = some ⟨oc1, od1, .func (PySem.W.fnOf "is_below" "is_below" (defArgs s_is_below) (defBody s_is_below) (defScope s_is_below) .none kV1 dc1 pm1 an1 cd1 ct1), sl1⟩) (c1 : PySem.W.codeIn K cd1 "is_below" = true) (k1 : PySem.W.keepIn K (.ref a1) = true)
    (g2 : PySem.W.nsIn K mainGlobals "are_below" = some (some (.ref a2))) (l2 : K.lookup a2 = some ⟨oc2, od2, .func (PySem.W.fnOf "are_below" "are_below" (defArgs s_are_below) (defBody s_are_below) (defScope s_are_below) .none kV2 dc2 pm2 an2 cd2 ct2), sl2⟩) (c2 : PySem.W.codeIn K cd2 "are_below" = true) (k2 : PySem.W.keepIn K (.ref a2) = true)
    (g3 : PySem.W.nsIn K mainGlobals "are_rising" = some (some (.ref a3))) (l3 : K.lookup a3 = some ⟨oc3, od3, .func (PySem.W.fnOf "are_rising" "are_rising" (defArgs s_are_rising) (defBody s_are_rising) (defScope s_are_rising) .none kV3 dc3 pm3 an3 cd3 ct3), sl3⟩) (c3 : PySem.W.codeIn K cd3 "are_rising" = true) (k3 : PySem.W.keepIn K (.ref a3) = true)
    (g4 : PySem.W.nsIn K mainGlobals "is_tie" = some (some (.ref a4))) (l4 : K.lookup a4 = some ⟨oc4, od4, .func (PySem.W.fnOf "is_tie" "is_tie" (defArgs s_is_tie) (defBody s_is_tie) (defScope s_is_tie) .none kV4 dc4 pm4 an4 cd4 ct4), sl4⟩) (c4 : PySem.W.codeIn K cd4 "is_tie" = true) (k4 : PySem.W.keepIn K (.ref a4) = true)
    (g5 : PySem.W.nsIn K mainGlobals "is_web" = some (some (.ref a5))) (l5 : K.lookup a5 = some ⟨oc5, od5, .func (PySem.W.fnOf "is_web" "is_web" (defArgs s_is_web) (defBody s_is_web) (defScope s_is_web) .none kV5 dc5 pm5 an5 cd5 ct5), sl5⟩) (c5 : PySem.W.codeIn K cd5 "is_web" = true) (k5 : PySem.W.keepIn K (.ref a5) = true)
    (g6 : PySem.W.nsIn K mainGlobals "need_web" = some (some (.ref a6))) (l6 : K.lookup a6 = some ⟨oc6, od6, .func (PySem.W.fnOf "need_web" "need_web" (defArgs s_need_web) (defBody s_need_web) (defScope s_need_web) .none kV6 dc6 pm6 an6 cd6 ct6), sl6⟩) (c6 : PySem.W.codeIn K cd6 "need_web" = true) (k6 : PySem.W.keepIn K (.ref a6) = true)
    (g7 : PySem.W.nsIn K mainGlobals "need_seat" = some (some (.ref a7))) (l7 : K.lookup a7 = some ⟨oc7, od7, .func (PySem.W.fnOf "need_seat" "need_seat" (defArgs s_need_seat) (defBody s_need_seat) (defScope s_need_seat) .none kV7 dc7 pm7 an7 cd7 ct7), sl7⟩) (c7 : PySem.W.codeIn K cd7 "need_seat" = true) (k7 : PySem.W.keepIn K (.ref a7) = true)
    (g8 : PySem.W.nsIn K mainGlobals "need_seats" = some (some (.ref a8))) (l8 : K.lookup a8 = some ⟨oc8, od8, .func (PySem.W.fnOf "need_seats" "need_seats" (defArgs s_need_seats) (defBody s_need_seats) (defScope s_need_seats) .none kV8 dc8 pm8 an8 cd8 ct8), sl8⟩) (c8 : PySem.W.codeIn K cd8 "need_seats" = true) (k8 : PySem.W.keepIn K (.ref a8) = true)
    (g9 : PySem.W.nsIn K mainGlobals "neighbours_by" = some (some (.ref a9))) (l9 : K.lookup a9 = some ⟨oc9, od9, .func (PySem.W.fnOf "neighbours_by" "neighbours_by" (defArgs s_neighbours_by) (defBody s_neighbours_by) (defScope s_neighbours_by) .none kV9 dc9 pm9 an9 cd9 ct9), sl9⟩) (c9 : PySem.W.codeIn K cd9 "neighbours_by" = true) (k9 : PySem.W.keepIn K (.ref a9) = true)
    (g10 : PySem.W.nsIn K mainGlobals "near_by" = some (some (.ref a10))) (l10 : K.lookup a10 = some ⟨oc10, od10, .func (PySem.W.fnOf "near_by" "near_by" (defArgs s_near_by) (defBody s_near_by) (defScope s_near_by) .none kV10 dc10 pm10 an10 cd10 ct10), sl10⟩) (c10 : PySem.W.codeIn K cd10 "near_by" = true) (k10 : PySem.W.keepIn K (.ref a10) = true)
    (g11 : PySem.W.nsIn K mainGlobals "steps_by" = some (some (.ref a11))) (l11 : K.lookup a11 = some ⟨oc11, od11, .func (PySem.W.fnOf "steps_by" "steps_by" (defArgs s_steps_by) (defBody s_steps_by) (defScope s_steps_by) .none kV11 dc11 pm11 an11 cd11 ct11), sl11⟩) (c11 : PySem.W.codeIn K cd11 "steps_by" = true) (k11 : PySem.W.keepIn K (.ref a11) = true)
    (g12 : PySem.W.nsIn K mainGlobals "neighbours" = some (some (.ref a12))) (l12 : K.lookup a12 = some ⟨oc12, od12, .func (PySem.W.fnOf "neighbours" "neighbours" (defArgs s_neighbours) (defBody s_neighbours) (defScope s_neighbours) .none kV12 dc12 pm12 an12 cd12 ct12), sl12⟩) (c12 : PySem.W.codeIn K cd12 "neighbours" = true) (k12 : PySem.W.keepIn K (.ref a12) = true)
    (g13 : PySem.W.nsIn K mainGlobals "steps" = some (some (.ref a13))) (l13 : K.lookup a13 = some ⟨oc13, od13, .func (PySem.W.fnOf "steps" "steps" (defArgs s_steps) (defBody s_steps) (defScope s_steps) .none kV13 dc13 pm13 an13 cd13 ct13), sl13⟩) (c13 : PySem.W.codeIn K cd13 "steps" = true) (k13 : PySem.W.keepIn K (.ref a13) = true)
    (g14 : PySem.W.nsIn K mainGlobals "steps_to" = some (some (.ref a14))) (l14 : K.lookup a14 = some ⟨oc14, od14, .func (PySem.W.fnOf "steps_to" "steps_to" (defArgs s_steps_to) (defBody s_steps_to) (defScope s_steps_to) .none kV14 dc14 pm14 an14 cd14 ct14), sl14⟩) (c14 : PySem.W.codeIn K cd14 "steps_to" = true) (k14 : PySem.W.keepIn K (.ref a14) = true)
    (g15 : PySem.W.nsIn K mainGlobals "within" = some (some (.ref a15))) (l15 : K.lookup a15 = some ⟨oc15, od15, .func (PySem.W.fnOf "within" "within" (defArgs s_within) (defBody s_within) (defScope s_within) .none kV15 dc15 pm15 an15 cd15 ct15), sl15⟩) (c15 : PySem.W.codeIn K cd15 "within" = true) (k15 : PySem.W.keepIn K (.ref a15) = true)
    (g16 : PySem.W.nsIn K mainGlobals "_law_pool" = some (some (.ref a16))) (l16 : K.lookup a16 = some ⟨oc16, od16, .func (PySem.W.fnOf "_law_pool" "_law_pool" (defArgs s__law_pool) (defBody s__law_pool) (defScope s__law_pool) .none kV16 dc16 pm16 an16 cd16 ct16), sl16⟩) (c16 : PySem.W.codeIn K cd16 "_law_pool" = true) (k16 : PySem.W.keepIn K (.ref a16) = true)
    (g17 : PySem.W.nsIn K mainGlobals "_law_take" = some (some (.ref a17))) (l17 : K.lookup a17 = some ⟨oc17, od17, .func (PySem.W.fnOf "_law_take" "_law_take" (defArgs s__law_take) (defBody s__law_take) (defScope s__law_take) .none kV17 dc17 pm17 an17 cd17 ct17), sl17⟩) (c17 : PySem.W.codeIn K cd17 "_law_take" = true) (k17 : PySem.W.keepIn K (.ref a17) = true)
    (g18 : PySem.W.nsIn K mainGlobals "_law_any_web" = some (some (.ref a18))) (l18 : K.lookup a18 = some ⟨oc18, od18, .func (PySem.W.fnOf "_law_any_web" "_law_any_web" (defArgs s__law_any_web) (defBody s__law_any_web) (defScope s__law_any_web) .none kV18 dc18 pm18 an18 cd18 ct18), sl18⟩) (c18 : PySem.W.codeIn K cd18 "_law_any_web" = true) (k18 : PySem.W.keepIn K (.ref a18) = true)
    (g19 : PySem.W.nsIn K mainGlobals "_law_way_right" = some (some (.ref a19))) (l19 : K.lookup a19 = some ⟨oc19, od19, .func (PySem.W.fnOf "_law_way_right" "_law_way_right" (defArgs s__law_way_right) (defBody s__law_way_right) (defScope s__law_way_right) .none kV19 dc19 pm19 an19 cd19 ct19), sl19⟩) (c19 : PySem.W.codeIn K cd19 "_law_way_right" = true) (k19 : PySem.W.keepIn K (.ref a19) = true)
    (g20 : PySem.W.nsIn K mainGlobals "_law_put_beside" = some (some (.ref a20))) (l20 : K.lookup a20 = some ⟨oc20, od20, .func (PySem.W.fnOf "_law_put_beside" "_law_put_beside" (defArgs s__law_put_beside) (defBody s__law_put_beside) (defScope s__law_put_beside) .none kV20 dc20 pm20 an20 cd20 ct20), sl20⟩) (c20 : PySem.W.codeIn K cd20 "_law_put_beside" = true) (k20 : PySem.W.keepIn K (.ref a20) = true)
    (g21 : PySem.W.nsIn K mainGlobals "_law_renamed" = some (some (.ref a21))) (l21 : K.lookup a21 = some ⟨oc21, od21, .func (PySem.W.fnOf "_law_renamed" "_law_renamed" (defArgs s__law_renamed) (defBody s__law_renamed) (defScope s__law_renamed) .none kV21 dc21 pm21 an21 cd21 ct21), sl21⟩) (c21 : PySem.W.codeIn K cd21 "_law_renamed" = true) (k21 : PySem.W.keepIn K (.ref a21) = true)
    (g22 : PySem.W.nsIn K mainGlobals "_law_names_right" = some (some (.ref a22))) (l22 : K.lookup a22 = some ⟨oc22, od22, .func (PySem.W.fnOf "_law_names_right" "_law_names_right" (defArgs s__law_names_right) (defBody s__law_names_right) (defScope s__law_names_right) .none kV22 dc22 pm22 an22 cd22 ct22), sl22⟩) (c22 : PySem.W.codeIn K cd22 "_law_names_right" = true) (k22 : PySem.W.keepIn K (.ref a22) = true)
    (g23 : PySem.W.nsIn K mainGlobals "law" = some (some (.ref a23))) (l23 : K.lookup a23 = some ⟨oc23, od23, .func (PySem.W.fnOf "law" "law" (defArgs s_law) (defBody s_law) (defScope s_law) .none kV23 dc23 pm23 an23 cd23 ct23), sl23⟩) (c23 : PySem.W.codeIn K cd23 "law" = true) (k23 : PySem.W.keepIn K (.ref a23) = true)
    (z_abs : PySem.W.nsIn K mainGlobals "abs" = some none)
    (z_all : PySem.W.nsIn K mainGlobals "all" = some none)
    (z_bool : PySem.W.nsIn K mainGlobals "bool" = some none)
    (z_int : PySem.W.nsIn K mainGlobals "int" = some none)
    (z_isinstance : PySem.W.nsIn K mainGlobals "isinstance" = some none)
    (z_len : PySem.W.nsIn K mainGlobals "len" = some none)
    (z_list : PySem.W.nsIn K mainGlobals "list" = some none)
    (z_max : PySem.W.nsIn K mainGlobals "max" = some none)
    (z_min : PySem.W.nsIn K mainGlobals "min" = some none)
    (z_range : PySem.W.nsIn K mainGlobals "range" = some none)
    (z_sorted : PySem.W.nsIn K mainGlobals "sorted" = some none)
    (z_tuple : PySem.W.nsIn K mainGlobals "tuple" = some none)
    (z_zip : PySem.W.nsIn K mainGlobals "zip" = some none)
    (y_MOST_SEATS : PySem.W.nsIn K mainGlobals "MOST_SEATS" = some (some (.int 12 ty_MOST_SEATS)))
    : Top K mg a0 a1 a2 a3 a4 a5 a6 a7 a8 a9 a10 a11 a12 a13 a14 a15 a16 a17 a18 a19 a20 a21 a22 a23 where
  txt := ⟨PySem.W.mg_none_of X G z_abs, PySem.W.mg_none_of X G z_all, PySem.W.mg_none_of X G z_bool, PySem.W.mg_none_of X G z_int, PySem.W.mg_none_of X G z_isinstance, PySem.W.mg_none_of X G z_len, PySem.W.mg_none_of X G z_list, PySem.W.mg_none_of X G z_max, PySem.W.mg_none_of X G z_min, PySem.W.mg_none_of X G z_range, PySem.W.mg_none_of X G z_sorted, PySem.W.mg_none_of X G z_tuple, PySem.W.mg_none_of X G z_zip, ⟨_, PySem.W.mg_of X G y_MOST_SEATS⟩⟩
  m0 := PySem.W.mg_of X G g0
  u0 := ⟨_, fun_mk (st := s_is_whole) l0 c0 k0⟩
  m1 := PySem.W.mg_of X G g1
  u1 := ⟨_, fun_mk (st := s_is_below) l1 c1 k1⟩
  m2 := PySem.W.mg_of X G g2
  u2 := ⟨_, fun_mk (st := s_are_below) l2 c2 k2⟩
  m3 := PySem.W.mg_of X G g3
  u3 := ⟨_, fun_mk (st := s_are_rising) l3 c3 k3⟩
  m4 := PySem.W.mg_of X G g4
  u4 := ⟨_, fun_mk (st := s_is_tie) l4 c4 k4⟩
  m5 := PySem.W.mg_of X G g5
  u5 := ⟨_, fun_mk (st := s_is_web) l5 c5 k5⟩
  m6 := PySem.W.mg_of X G g6
  u6 := ⟨_, fun_mk (st := s_need_web) l6 c6 k6⟩
  m7 := PySem.W.mg_of X G g7
  u7 := ⟨_, fun_mk (st := s_need_seat) l7 c7 k7⟩
  m8 := PySem.W.mg_of X G g8
  u8 := ⟨_, fun_mk (st := s_need_seats) l8 c8 k8⟩
  m9 := PySem.W.mg_of X G g9
  u9 := ⟨_, fun_mk (st := s_neighbours_by) l9 c9 k9⟩
  m10 := PySem.W.mg_of X G g10
  u10 := ⟨_, fun_mk (st := s_near_by) l10 c10 k10⟩
  m11 := PySem.W.mg_of X G g11
  u11 := ⟨_, fun_mk (st := s_steps_by) l11 c11 k11⟩
  m12 := PySem.W.mg_of X G g12
  u12 := ⟨_, fun_mk (st := s_neighbours) l12 c12 k12⟩
  m13 := PySem.W.mg_of X G g13
  u13 := ⟨_, fun_mk (st := s_steps) l13 c13 k13⟩
  m14 := PySem.W.mg_of X G g14
  u14 := ⟨_, fun_mk (st := s_steps_to) l14 c14 k14⟩
  m15 := PySem.W.mg_of X G g15
  u15 := ⟨_, fun_mk (st := s_within) l15 c15 k15⟩
  m16 := PySem.W.mg_of X G g16
  u16 := ⟨_, fun_mk (st := s__law_pool) l16 c16 k16⟩
  m17 := PySem.W.mg_of X G g17
  u17 := ⟨_, fun_mk (st := s__law_take) l17 c17 k17⟩
  m18 := PySem.W.mg_of X G g18
  u18 := ⟨_, fun_mk (st := s__law_any_web) l18 c18 k18⟩
  m19 := PySem.W.mg_of X G g19
  u19 := ⟨_, fun_mk (st := s__law_way_right) l19 c19 k19⟩
  m20 := PySem.W.mg_of X G g20
  u20 := ⟨_, fun_mk (st := s__law_put_beside) l20 c20 k20⟩
  m21 := PySem.W.mg_of X G g21
  u21 := ⟨_, fun_mk (st := s__law_renamed) l21 c21 k21⟩
  m22 := PySem.W.mg_of X G g22
  u22 := ⟨_, fun_mk (st := s__law_names_right) l22 c22 k22⟩
  m23 := PySem.W.mg_of X G g23
  u23 := ⟨_, fun_mk (st := s_law) l23 c23 k23⟩
end
theorem all_ok {P : Program} {w : World} {K : PySem.W.Frag} {mg : Str → Option Value} {a0 a1 a2 a3 a4 a5 a6 a7 a8 a9 a10 a11 a12 a13 a14 a15 a16 a17 a18 a19 a20 a21 a22 a23 : Addr} (T : Top K mg a0 a1 a2 a3 a4 a5 a6 a7 a8 a9 a10 a11 a12 a13 a14 a15 a16 a17 a18 a19 a20 a21 a22 a23) :
    ∃ fd : FuncData, (∀ (s : Shared) (v : Value), BindsTo s fd ⟨[v], []⟩ [("script", v)]) ∧ ∀ base : Heap, FnG P w K mg base 9 a23 fd P_law (spM K mg 1 f_law) := by
  obtain ⟨fd0, F0⟩ := T.u0
  obtain ⟨fd1, F1⟩ := T.u1
  obtain ⟨fd2, F2⟩ := T.u2
  obtain ⟨fd3, F3⟩ := T.u3
  obtain ⟨fd4, F4⟩ := T.u4
  obtain ⟨fd5, F5⟩ := T.u5
  obtain ⟨fd6, F6⟩ := T.u6
  obtain ⟨fd7, F7⟩ := T.u7
  obtain ⟨fd8, F8⟩ := T.u8
  obtain ⟨fd9, F9⟩ := T.u9
  obtain ⟨fd10, F10⟩ := T.u10
  obtain ⟨fd11, F11⟩ := T.u11
  obtain ⟨fd12, F12⟩ := T.u12
  obtain ⟨fd13, F13⟩ := T.u13
  obtain ⟨fd14, F14⟩ := T.u14
  obtain ⟨fd15, F15⟩ := T.u15
  obtain ⟨fd16, F16⟩ := T.u16
  obtain ⟨fd17, F17⟩ := T.u17
  obtain ⟨fd18, F18⟩ := T.u18
  obtain ⟨fd19, F19⟩ := T.u19
  obtain ⟨fd20, F20⟩ := T.u20
  obtain ⟨fd21, F21⟩ := T.u21
  obtain ⟨fd22, F22⟩ := T.u22
  obtain ⟨fd23, F23⟩ := T.u23
  have b0 := F0.binds (ps := P_is_whole) (fun _ _ _ _ _ _ us hl => match us, hl with | [_], _ => rfl)
  have b1 := F1.binds (ps := P_is_below) (fun _ _ _ _ _ _ us hl => match us, hl with | [_, _], _ => rfl)
  have b2 := F2.binds (ps := P_are_below) (fun _ _ _ _ _ _ us hl => match us, hl with | [_, _], _ => rfl)
  have b3 := F3.binds (ps := P_are_rising) (fun _ _ _ _ _ _ us hl => match us, hl with | [_], _ => rfl)
  have b4 := F4.binds (ps := P_is_tie) (fun _ _ _ _ _ _ us hl => match us, hl with | [_, _], _ => rfl)
  have b5 := F5.binds (ps := P_is_web) (fun _ _ _ _ _ _ us hl => match us, hl with | [_], _ => rfl)
  have b6 := F6.binds (ps := P_need_web) (fun _ _ _ _ _ _ us hl => match us, hl with | [_], _ => rfl)
  have b7 := F7.binds (ps := P_need_seat) (fun _ _ _ _ _ _ us hl => match us, hl with | [_, _], _ => rfl)
  have b8 := F8.binds (ps := P_need_seats) (fun _ _ _ _ _ _ us hl => match us, hl with | [_, _], _ => rfl)
  have b9 := F9.binds (ps := P_neighbours_by) (fun _ _ _ _ _ _ us hl => match us, hl with | [_, _], _ => rfl)
  have b10 := F10.binds (ps := P_near_by) (fun _ _ _ _ _ _ us hl => match us, hl with | [_], _ => rfl)
  have b11 := F11.binds (ps := P_steps_by) (fun _ _ _ _ _ _ us hl => match us, hl with | [_, _], _ => rfl)
  have b12 := F12.binds (ps := P_neighbours) (fun _ _ _ _ _ _ us hl => match us, hl with | [_, _], _ => rfl)
  have b13 := F13.binds (ps := P_steps) (fun _ _ _ _ _ _ us hl => match us, hl with | [_, _, _], _ => rfl)
  have b14 := F14.binds (ps := P_steps_to) (fun _ _ _ _ _ _ us hl => match us, hl with | [_, _], _ => rfl)
  have b15 := F15.binds (ps := P_within) (fun _ _ _ _ _ _ us hl => match us, hl with | [_, _, _], _ => rfl)
  have b16 := F16.binds (ps := P__law_pool) (fun _ _ _ _ _ _ us hl => match us, hl with | [_, _], _ => rfl)
  have b17 := F17.binds (ps := P__law_take) (fun _ _ _ _ _ _ us hl => match us, hl with | [_, _], _ => rfl)
  have b18 := F18.binds (ps := P__law_any_web) (fun _ _ _ _ _ _ us hl => match us, hl with | [_, _], _ => rfl)
  have b19 := F19.binds (ps := P__law_way_right) (fun _ _ _ _ _ _ us hl => match us, hl with | [_, _, _], _ => rfl)
  have b20 := F20.binds (ps := P__law_put_beside) (fun _ _ _ _ _ _ us hl => match us, hl with | [_, _], _ => rfl)
  have b21 := F21.binds (ps := P__law_renamed) (fun _ _ _ _ _ _ us hl => match us, hl with | [_, _], _ => rfl)
  have b22 := F22.binds (ps := P__law_names_right) (fun _ _ _ _ _ _ us hl => match us, hl with | [_, _], _ => rfl)
  have b23 := F23.binds (ps := P_law) (fun _ _ _ _ _ _ us hl => match us, hl with | [_], _ => rfl)
  have C0 : ∀ b : Heap, Cal P w K mg b 1 "is_whole" P_is_whole f_is_whole := fun b => Cal.of (ok_is_whole T.txt F0) T.m0 F0 b0
  have C1 : ∀ b : Heap, Cal P w K mg b 2 "is_below" P_is_below f_is_below := fun b => Cal.of (ok_is_below T.txt F1 (C0 b).mono) T.m1 F1 b1
  have C2 : ∀ b : Heap, Cal P w K mg b 3 "are_below" P_are_below f_are_below := fun b => Cal.of (ok_are_below T.txt F2 (C1 b).mono) T.m2 F2 b2
  have C3 : ∀ b : Heap, Cal P w K mg b 1 "are_rising" P_are_rising f_are_rising := fun b => Cal.of (ok_are_rising T.txt F3) T.m3 F3 b3
  have C4 : ∀ b : Heap, Cal P w K mg b 4 "is_tie" P_is_tie f_is_tie := fun b => Cal.of (ok_is_tie T.txt F4 (C2 b).mono) T.m4 F4 b4
  have C5 : ∀ b : Heap, Cal P w K mg b 5 "is_web" P_is_web f_is_web := fun b => Cal.of (ok_is_web T.txt F5 (C1 b).mono (C4 b).mono (C3 b).mono) T.m5 F5 b5
  have C6 : ∀ b : Heap, Cal P w K mg b 6 "need_web" P_need_web f_need_web := fun b => Cal.of (ok_need_web T.txt F6 (C5 b).mono) T.m6 F6 b6
  have C7 : ∀ b : Heap, Cal P w K mg b 3 "need_seat" P_need_seat f_need_seat := fun b => Cal.of (ok_need_seat T.txt F7 (C1 b).mono) T.m7 F7 b7
  have C8 : ∀ b : Heap, Cal P w K mg b 4 "need_seats" P_need_seats f_need_seats := fun b => Cal.of (ok_need_seats T.txt F8 (C2 b).mono (C3 b).mono) T.m8 F8 b8
  have C9 : ∀ b : Heap, Cal P w K mg b 1 "neighbours_by" P_neighbours_by f_neighbours_by := fun b => Cal.of (ok_neighbours_by T.txt F9) T.m9 F9 b9
  have C10 : ∀ b : Heap, Cal P w K mg b 2 "near_by" P_near_by f_near_by := fun b => Cal.of (ok_near_by T.txt F10 (C9 b).mono) T.m10 F10 b10
  have C11 : ∀ b : Heap, Cal P w K mg b 3 "steps_by" P_steps_by f_steps_by := fun b => Cal.of (ok_steps_by T.txt F11 (C10 b).mono) T.m11 F11 b11
  have C12 : ∀ b : Heap, Cal P w K mg b 7 "neighbours" P_neighbours f_neighbours := fun b => Cal.of (ok_neighbours T.txt F12 (C6 b).mono (C7 b).mono (C9 b).mono) T.m12 F12 b12
  have C13 : ∀ b : Heap, Cal P w K mg b 7 "steps" P_steps f_steps := fun b => Cal.of (ok_steps T.txt F13 (C6 b).mono (C7 b).mono (C11 b).mono) T.m13 F13 b13
  have C14 : ∀ b : Heap, Cal P w K mg b 7 "steps_to" P_steps_to f_steps_to := fun b => Cal.of (ok_steps_to T.txt F14 (C6 b).mono (C8 b).mono (C11 b).mono) T.m14 F14 b14
  have C15 : ∀ b : Heap, Cal P w K mg b 7 "within" P_within f_within := fun b => Cal.of (ok_within T.txt F15 (C6 b).mono (C7 b).mono (C0 b).mono (C11 b).mono) T.m15 F15 b15
  have C16 : ∀ b : Heap, Cal P w K mg b 1 "_law_pool" P__law_pool f__law_pool := fun b => Cal.of (ok__law_pool T.txt F16) T.m16 F16 b16
  have C17 : ∀ b : Heap, Cal P w K mg b 1 "_law_take" P__law_take f__law_take := fun b => Cal.of (ok__law_take T.txt F17) T.m17 F17 b17
  have C18 : ∀ b : Heap, Cal P w K mg b 2 "_law_any_web" P__law_any_web f__law_any_web := fun b => Cal.of (ok__law_any_web T.txt F18 (C17 b).mono) T.m18 F18 b18
  have C19 : ∀ b : Heap, Cal P w K mg b 8 "_law_way_right" P__law_way_right f__law_way_right := fun b => Cal.of (ok__law_way_right T.txt F19 (C13 b).mono (C12 b).mono) T.m19 F19 b19
  have C20 : ∀ b : Heap, Cal P w K mg b 1 "_law_put_beside" P__law_put_beside f__law_put_beside := fun b => Cal.of (ok__law_put_beside T.txt F20) T.m20 F20 b20
  have C21 : ∀ b : Heap, Cal P w K mg b 1 "_law_renamed" P__law_renamed f__law_renamed := fun b => Cal.of (ok__law_renamed T.txt F21) T.m21 F21 b21
  have C22 : ∀ b : Heap, Cal P w K mg b 8 "_law_names_right" P__law_names_right f__law_names_right := fun b => Cal.of (ok__law_names_right T.txt F22 (C21 b).mono (C12 b).mono (C15 b).mono (C13 b).mono (C5 b).mono) T.m22 F22 b22
  refine ⟨fd23, fun s v => ?_, fun b => ok_law T.txt F23 (C16 b).mono (C18 b).mono (C20 b).mono (C17 b).mono (C13 b).mono (C14 b).mono (C19 b).mono (C22 b).mono⟩
  have hb := b23 s [v]
  obtain ⟨oc, od, kV, doc, pm, an, cdv, ct, osl, rfl, lk, hcd⟩ := F23.ex
  exact .of_eq rfl
def TopE (K : PySem.W.Frag) (mg : Str → Option Value) (fa : Addr) : Prop := ∃ a0 a1 a2 a3 a4 a5 a6 a7 a8 a9 a10 a11 a12 a13 a14 a15 a16 a17 a18 a19 a20 a21 a22 : Addr, Top K mg a0 a1 a2 a3 a4 a5 a6 a7 a8 a9 a10 a11 a12 a13 a14 a15 a16 a17 a18 a19 a20 a21 a22 fa
theorem top_fa {K : PySem.W.Frag} {h : Heap} {mg : Str → Option Value} {fa : Addr} {a0 a1 a2 a3 a4 a5 a6 a7 a8 a9 a10 a11 a12 a13 a14 a15 a16 a17 a18 a19 a20 a21 a22 a23 : Addr} (X : K.In h) (G : h.Ns mainGlobals mg) (hfa : mg "law" = some (.ref fa)) {od0 an0 od1 an1 od2 an2 od3 an3 od4 an4 od5 an5 od6 an6 od7 an7 od8 an8 od9 an9 od10 an10 od11 an11 od12 an12 od13 an13 od14 an14 od15 an15 od16 an16 od17 an17 od18 an18 od19 an19 od20 an20 od21 an21 od22 an22 od23 an23 : Option Addr} {sl0 sl1 sl2 sl3 sl4 sl5 sl6 sl7 sl8 sl9 sl10 sl11 sl12 sl13 sl14 sl15 sl16 sl17 sl18 sl19 sl20 sl21 sl22 sl23 : Array (Option Value)} {oc0 kV0 dc0 pm0 cd0 ct0 oc1 kV1 dc1 pm1 cd1 ct1 oc2 kV2 dc2 pm2 cd2 ct2 oc3 kV3 dc3 pm3 cd3 ct3 oc4 kV4 dc4 pm4 cd4 ct4 oc5 kV5 dc5 pm5 cd5 ct5 oc6 kV6 dc6 pm6 cd6 ct6 oc7 kV7 dc7 pm7 cd7 ct7 oc8 kV8 dc8 pm8 cd8 ct8 oc9 kV9 dc9 pm9 cd9 ct9 oc10 kV10 dc10 pm10 cd10 ct10 oc11 kV11 dc11 pm11 cd11 ct11 oc12 kV12 dc12 pm12 cd12 ct12 oc13 kV13 dc13 pm13 cd13 ct13 oc14 kV14 dc14 pm14 cd14 ct14 oc15 kV15 dc15 pm15 cd15 ct15 oc16 kV16 dc16 pm16 cd16 ct16 oc17 kV17 dc17 pm17 cd17 ct17 oc18 kV18 dc18 pm18 cd18 ct18 oc19 kV19 dc19 pm19 cd19 ct19 oc20 kV20 dc20 pm20 cd20 ct20 oc21 kV21 dc21 pm21 cd21 ct21 oc22 kV22 dc22 pm22 cd22 ct22 oc23 kV23 dc23 pm23 cd23 ct23 : Value} {ty_MOST_SEATS : Tok}
    (g0 : PySem.W.nsIn K mainGlobals "is_whole" = some (some (.ref a0))) (l0 : K.lookup a0 = some ⟨oc0, od0, .func (PySem.W.fnOf "is_whole" "is_whole" (defArgs s_is_whole) (defBody s_is_whole) (defScope s_is_whole) .none kV0 dc0 pm0 an0 cd0 ct0), sl0⟩) (c0 : PySem.W.codeIn K cd0 "is_whole" = true) (k0 : PySem.W.keepIn K (.ref a0) = true)
    (g1 : PySem.W.nsIn K mainGlobals "is_below" = some (some (.ref a1))) (l1 : K.lookup a1 = some ⟨oc1, od1, .func (PySem.W.fnOf "is_below" "is_below" (defArgs s_is_below) (defBody s_is_below) (defScope s_is_below) .none kV1 dc1 pm1 an1 cd1 ct1), sl1⟩) (c1 : PySem.W.codeIn K cd1 "is_below" = true) (k1 : PySem.W.keepIn K (.ref a1) = true)
    (g2 : PySem.W.nsIn K mainGlobals "are_below" = some (some (.ref a2))) (l2 : K.lookup a2 = some ⟨oc2, od2, .func (PySem.W.fnOf "are_below" "are_below" (defArgs s_are_below) (defBody s_are_below) (defScope s_are_below) .none kV2 dc2 pm2 an2 cd2 ct2), sl2⟩) (c2 : PySem.W.codeIn K cd2 "are_below" = true) (k2 : PySem.W.keepIn K (.ref a2) = true)
    (g3 : PySem.W.nsIn K mainGlobals "are_rising" = some (some (.ref a3))) (l3 : K.lookup a3 = some ⟨oc3, od3, .func (PySem.W.fnOf "are_rising" "are_rising" (defArgs s_are_rising) (defBody s_are_rising) (defScope s_are_rising) .none kV3 dc3 pm3 an3 cd3 ct3), sl3⟩) (c3 : PySem.W.codeIn K cd3 "are_rising" = true) (k3 : PySem.W.keepIn K (.ref a3) = true)
    (g4 : PySem.W.nsIn K mainGlobals "is_tie" = some (some (.ref a4))) (l4 : K.lookup a4 = some ⟨oc4, od4, .func (PySem.W.fnOf "is_tie" "is_tie" (defArgs s_is_tie) (defBody s_is_tie) (defScope s_is_tie) .none kV4 dc4 pm4 an4 cd4 ct4), sl4⟩) (c4 : PySem.W.codeIn K cd4 "is_tie" = true) (k4 : PySem.W.keepIn K (.ref a4) = true)
    (g5 : PySem.W.nsIn K mainGlobals "is_web" = some (some (.ref a5))) (l5 : K.lookup a5 = some ⟨oc5, od5, .func (PySem.W.fnOf "is_web" "is_web" (defArgs s_is_web) (defBody s_is_web) (defScope s_is_web) .none kV5 dc5 pm5 an5 cd5 ct5), sl5⟩) (c5 : PySem.W.codeIn K cd5 "is_web" = true) (k5 : PySem.W.keepIn K (.ref a5) = true)
    (g6 : PySem.W.nsIn K mainGlobals "need_web" = some (some (.ref a6))) (l6 : K.lookup a6 = some ⟨oc6, od6, .func (PySem.W.fnOf "need_web" "need_web" (defArgs s_need_web) (defBody s_need_web) (defScope s_need_web) .none kV6 dc6 pm6 an6 cd6 ct6), sl6⟩) (c6 : PySem.W.codeIn K cd6 "need_web" = true) (k6 : PySem.W.keepIn K (.ref a6) = true)
    (g7 : PySem.W.nsIn K mainGlobals "need_seat" = some (some (.ref a7))) (l7 : K.lookup a7 = some ⟨oc7, od7, .func (PySem.W.fnOf "need_seat" "need_seat" (defArgs s_need_seat) (defBody s_need_seat) (defScope s_need_seat) .none kV7 dc7 pm7 an7 cd7 ct7), sl7⟩) (c7 : PySem.W.codeIn K cd7 "need_seat" = true) (k7 : PySem.W.keepIn K (.ref a7) = true)
    (g8 : PySem.W.nsIn K mainGlobals "need_seats" = some (some (.ref a8))) (l8 : K.lookup a8 = some ⟨oc8, od8, .func (PySem.W.fnOf "need_seats" "need_seats" (defArgs s_need_seats) (defBody s_need_seats) (defScope s_need_seats) .none kV8 dc8 pm8 an8 cd8 ct8), sl8⟩) (c8 : PySem.W.codeIn K cd8 "need_seats" = true) (k8 : PySem.W.keepIn K (.ref a8) = true)
    (g9 : PySem.W.nsIn K mainGlobals "neighbours_by" = some (some (.ref a9))) (l9 : K.lookup a9 = some ⟨oc9, od9, .func (PySem.W.fnOf "neighbours_by" "neighbours_by" (defArgs s_neighbours_by) (defBody s_neighbours_by) (defScope s_neighbours_by) .none kV9 dc9 pm9 an9 cd9 ct9), sl9⟩) (c9 : PySem.W.codeIn K cd9 "neighbours_by" = true) (k9 : PySem.W.keepIn K (.ref a9) = true)
    (g10 : PySem.W.nsIn K mainGlobals "near_by" = some (some (.ref a10))) (l10 : K.lookup a10 = some ⟨oc10, od10, .func (PySem.W.fnOf "near_by" "near_by" (defArgs s_near_by) (defBody s_near_by) (defScope s_near_by) .none kV10 dc10 pm10 an10 cd10 ct10), sl10⟩) (c10 : PySem.W.codeIn K cd10 "near_by" = true) (k10 : PySem.W.keepIn K (.ref a10) = true)
    (g11 : PySem.W.nsIn K mainGlobals "steps_by" = some (some (.ref a11))) (l11 : K.lookup a11 = some ⟨oc11, od11, .func (PySem.W.fnOf "steps_by" "steps_by" (defArgs s_steps_by) (defBody s_steps_by) (defScope s_steps_by) .none kV11 dc11 pm11 an11 cd11 ct11), sl11⟩) (c11 : PySem.W.codeIn K cd11 "steps_by" = true) (k11 : PySem.W.keepIn K (.ref a11) = true)
    (g12 : PySem.W.nsIn K mainGlobals "neighbours" = some (some (.ref a12))) (l12 : K.lookup a12 = some ⟨oc12, od12, .func (PySem.W.fnOf "neighbours" "neighbours" (defArgs s_neighbours) (defBody s_neighbours) (defScope s_neighbours) .none kV12 dc12 pm12 an12 cd12 ct12), sl12⟩) (c12 : PySem.W.codeIn K cd12 "neighbours" = true) (k12 : PySem.W.keepIn K (.ref a12) = true)
    (g13 : PySem.W.nsIn K mainGlobals "steps" = some (some (.ref a13))) (l13 : K.lookup a13 = some ⟨oc13, od13, .func (PySem.W.fnOf "steps" "steps" (defArgs s_steps) (defBody s_steps) (defScope s_steps) .none kV13 dc13 pm13 an13 cd13 ct13), sl13⟩) (c13 : PySem.W.codeIn K cd13 "steps" = true) (k13 : PySem.W.keepIn K (.ref a13) = true)
    (g14 : PySem.W.nsIn K mainGlobals "steps_to" = some (some (.ref a14))) (l14 : K.lookup a14 = some ⟨oc14, od14, .func (PySem.W.fnOf "steps_to" "steps_to" (defArgs s_steps_to) (defBody s_steps_to) (defScope s_steps_to) .none kV14 dc14 pm14 an14 cd14 ct14), sl14⟩) (c14 : PySem.W.codeIn K cd14 "steps_to" = true) (k14 : PySem.W.keepIn K (.ref a14) = true)
    (g15 : PySem.W.nsIn K mainGlobals "within" = some (some (.ref a15))) (l15 : K.lookup a15 = some ⟨oc15, od15, .func (PySem.W.fnOf "within" "within" (defArgs s_within) (defBody s_within) (defScope s_within) .none kV15 dc15 pm15 an15 cd15 ct15), sl15⟩) (c15 : PySem.W.codeIn K cd15 "within" = true) (k15 : PySem.W.keepIn K (.ref a15) = true)
    (g16 : PySem.W.nsIn K mainGlobals "_law_pool" = some (some (.ref a16))) (l16 : K.lookup a16 = some ⟨oc16, od16, .func (PySem.W.fnOf "_law_pool" "_law_pool" (defArgs s__law_pool) (defBody s__law_pool) (defScope s__law_pool) .none kV16 dc16 pm16 an16 cd16 ct16), sl16⟩) (c16 : PySem.W.codeIn K cd16 "_law_pool" = true) (k16 : PySem.W.keepIn K (.ref a16) = true)
    (g17 : PySem.W.nsIn K mainGlobals "_law_take" = some (some (.ref a17))) (l17 : K.lookup a17 = some ⟨oc17, od17, .func (PySem.W.fnOf "_law_take" "_law_take" (defArgs s__law_take) (defBody s__law_take) (defScope s__law_take) .none kV17 dc17 pm17 an17 cd17 ct17), sl17⟩) (c17 : PySem.W.codeIn K cd17 "_law_take" = true) (k17 : PySem.W.keepIn K (.ref a17) = true)
    (g18 : PySem.W.nsIn K mainGlobals "_law_any_web" = some (some (.ref a18))) (l18 : K.lookup a18 = some ⟨oc18, od18, .func (PySem.W.fnOf "_law_any_web" "_law_any_web" (defArgs s__law_any_web) (defBody s__law_any_web) (defScope s__law_any_web) .none kV18 dc18 pm18 an18 cd18 ct18), sl18⟩) (c18 : PySem.W.codeIn K cd18 "_law_any_web" = true) (k18 : PySem.W.keepIn K (.ref a18) = true)
    (g19 : PySem.W.nsIn K mainGlobals "_law_way_right" = some (some (.ref a19))) (l19 : K.lookup a19 = some ⟨oc19, od19, .func (PySem.W.fnOf "_law_way_right" "_law_way_right" (defArgs s__law_way_right) (defBody s__law_way_right) (defScope s__law_way_right) .none kV19 dc19 pm19 an19 cd19 ct19), sl19⟩) (c19 : PySem.W.codeIn K cd19 "_law_way_right" = true) (k19 : PySem.W.keepIn K (.ref a19) = true)
    (g20 : PySem.W.nsIn K mainGlobals "_law_put_beside" = some (some (.ref a20))) (l20 : K.lookup a20 = some ⟨oc20, od20, .func (PySem.W.fnOf "_law_put_beside" "_law_put_beside" (defArgs s__law_put_beside) (defBody s__law_put_beside) (defScope s__law_put_beside) .none kV20 dc20 pm20 an20 cd20 ct20), sl20⟩) (c20 : PySem.W.codeIn K cd20 "_law_put_beside" = true) (k20 : PySem.W.keepIn K (.ref a20) = true)
    (g21 : PySem.W.nsIn K mainGlobals "_law_renamed" = some (some (.ref a21))) (l21 : K.lookup a21 = some ⟨oc21, od21, .func (PySem.W.fnOf "_law_renamed" "_law_renamed" (defArgs s__law_renamed) (defBody s__law_renamed) (defScope s__law_renamed) .none kV21 dc21 pm21 an21 cd21 ct21), sl21⟩) (c21 : PySem.W.codeIn K cd21 "_law_renamed" = true) (k21 : PySem.W.keepIn K (.ref a21) = true)
    (g22 : PySem.W.nsIn K mainGlobals "_law_names_right" = some (some (.ref a22))) (l22 : K.lookup a22 = some ⟨oc22, od22, .func (PySem.W.fnOf "_law_names_right" "_law_names_right" (defArgs s__law_names_right) (defBody s__law_names_right) (defScope s__law_names_right) .none kV22 dc22 pm22 an22 cd22 ct22), sl22⟩) (c22 : PySem.W.codeIn K cd22 "_law_names_right" = true) (k22 : PySem.W.keepIn K (.ref a22) = true)
    (g23 : PySem.W.nsIn K mainGlobals "law" = some (some (.ref a23))) (l23 : K.lookup a23 = some ⟨oc23, od23, .func (PySem.W.fnOf "law" "law" (defArgs s_law) (defBody s_law) (defScope s_law) .none kV23 dc23 pm23 an23 cd23 ct23), sl23⟩) (c23 : PySem.W.codeIn K cd23 "law" = true) (k23 : PySem.W.keepIn K (.ref a23) = true)
    (z_abs : PySem.W.nsIn K mainGlobals "abs" = some none)
    (z_all : PySem.W.nsIn K mainGlobals "all" = some none)
    (z_bool : PySem.W.nsIn K mainGlobals "bool" = some none)
    (z_int : PySem.W.nsIn K mainGlobals "int" = some none)
    (z_isinstance : PySem.W.nsIn K mainGlobals "isinstance" = some none)
    (z_len : PySem.W.nsIn K mainGlobals "len" = some none)
    (z_list : PySem.W.nsIn K mainGlobals "list" = some none)
    (z_max : PySem.W.nsIn K mainGlobals "max" = some none)
    (z_min : PySem.W.nsIn K mainGlobals "min" = some none)
    (z_range : PySem.W.nsIn K mainGlobals "range" = some none)
    (z_sorted : PySem.W.nsIn K mainGlobals "sorted" = some none)
    (z_tuple : PySem.W.nsIn K mainGlobals "tuple" = some none)
    (z_zip : PySem.W.nsIn K mainGlobals "zip" = some none)
    (y_MOST_SEATS : PySem.W.nsIn K mainGlobals "MOST_SEATS" = some (some (.int 12 ty_MOST_SEATS)))
    : TopE K mg fa := by
  have T := top_mk X G g0 l0 c0 k0 g1 l1 c1 k1 g2 l2 c2 k2 g3 l3 c3 k3 g4 l4 c4 k4 g5 l5 c5 k5 g6 l6 c6 k6 g7 l7 c7 k7 g8 l8 c8 k8 g9 l9 c9 k9 g10 l10 c10 k10 g11 l11 c11 k11 g12 l12 c12 k12 g13 l13 c13 k13 g14 l14 c14 k14 g15 l15 c15 k15 g16 l16 c16 k16 g17 l17 c17 k17 g18 l18 c18 k18 g19 l19 c19 k19 g20 l20 c20 k20 g21 l21 c21 k21 g22 l22 c22 k22 g23 l23 c23 k23 z_abs z_all z_bool z_int z_isinstance z_len z_list z_max z_min z_range z_sorted z_tuple z_zip y_MOST_SEATS
  have e := hfa.symm.trans T.m23
  cases e
  exact ⟨_, _, _, _, _, _, _, _, _, _, _, _, _, _, _, _, _, _, _, _, _, _, _, T⟩
theorem walk {l : PySem.W.OpenLaw} {q : Program} {loose : List Str} {XP : (Str → Option Value) → Heap → Prop} {YP : World → Heap → Prop} {d : DefRec} {K : Params → PySem.W.Frag} (hn : l.most = some 63) (hdf : d.params.defaults = []) (hNL : ∀ w : World, noLst (K w.params) = true)
    (hY : ∀ (w : World) (h : Heap), YP w h → (K w.params).In h) (F : ∀ (w : World) (mg : Str → Option Value) (fa : Addr) (h : Heap), (K w.params).In h → h.Ns mainGlobals mg → mg d.name = some (.ref fa) → TopE (K w.params) mg fa)
    (hlaw : ∀ ns : List Int, ns.length ≤ 63 → f_law [.lst (ns.map .int)] [] = .ok (.bl true) []) :
    PySem.W.WalkO q loose XP YP l.row.toRowW d [] (fun f vs => PySem.call f vs) :=
  walk_ofG (n := 63) (k := 9) (x := "script") (sp := fun w => spE (K w.params) f_law) hn (by decide) hdf ⟨⟨rfl, by decide, by decide⟩, rfl⟩ hNL hY
    (fun w mg fa h KX G hmg => let ⟨_, _, _, _, _, _, _, _, _, _, _, _, _, _, _, _, _, _, _, _, _, _, _, T⟩ := F w mg fa h KX G hmg; let ⟨fd, hb, hF⟩ := all_ok T; ⟨fd, hb, fun base _ _ => (hF base).toE⟩)
    (fun w H a ns hl hS => spE_law hlaw hl hS) fun w H s e s2 z => noX z
end K08
end
section
namespace K08
open PySem PySem.Spec PyProof.Rows L2 DL
abbrev nD (i : Nat) : PyData := .int i
abbrev tieD (p : Nat × Nat) : PyData := .tuple [.int p.1, .int p.2]
abbrev webD (n : Nat) (ts : List (Nat × Nat)) : PyData := .tuple [.int n, .tuple (ts.map tieD)]
def tlt (p q : Nat × Nat) : Prop := p.1 < q.1 ∨ (p.1 = q.1 ∧ p.2 < q.2)
instance (p q : Nat × Nat) : Decidable (tlt p q) := inferInstanceAs (Decidable (_ ∨ _))
structure GW (n : Nat) (ts : List (Nat × Nat)) : Prop where
  n1 : 1 ≤ n
  n12 : n ≤ 12
  tie : ∀ p ∈ ts, p.1 < p.2 ∧ p.2 < n
  ris : ts.Pairwise tlt
  len : ts.length ≤ 1000
theorem le_size {n : Nat} (h : n ≤ 100000) : n ≤ sizeLine := by rw [sizeLine_eq]; omega
theorem is_whole_int (i : Int) : f_is_whole [.int i] [] = .ok (.bl true) [] := by
  refine runF_pure (S' := []) ?_
  simp [m_is_whole, startD, isTy]
theorem is_below_int (i m : Int) : f_is_below [.int i, .int m] [] = .ok (.bl (decide (0 ≤ i) && decide (i < m))) [] := by
  have h := fun σ S => callF_pd (n := 1) (is_whole_int i) rfl rfl rfl rfl σ S
  refine runF_pure (S' := []) ?_
  simp [m_is_below, startD, h]
  by_cases hi : 0 ≤ i <;> simp [hi]
theorem is_below_nat (i m : Nat) : f_is_below [.int i, .int m] [] = .ok (.bl (decide (i < m))) [] := by
  rw [is_below_int]
  simp
theorem are_below_nat (xs : List Nat) (m : Nat) (hl : xs.length ≤ 100000) : f_are_below [.tup (xs.map nD), .int m] [] = .ok (.bl (xs.all fun x => decide (x < m))) [] := by
  refine runF_pure (S' := []) ?_
  have h := fun (x : Nat) σ S => callF_pd (n := 2) (is_below_nat x m) rfl rfl rfl rfl σ S
  have e : eLc [2] (iSeq (eVar 0)) (tgName 2) (mRet true) qare_below_e1 [some (.tup (xs.map nD)), some (.int m), none] [] = .ok (.lst (xs.map fun x => .bool (decide (x < m)))) [] := by
    refine eLc_all (gu := .no) xs (fun x => D.int x) (fun x => .bool (decide (x < m))) ((iSeq_tup (xs := xs.map nD) (by simp)).trans (by rw [List.map_map]; rfl)) (by exact trivial) (fun x _ => ⟨_, rfl, ?_⟩) (le_size hl)
    simp [qare_below_e1, h]
  simp [m_are_below, startD, isTy, e, fAll_map]
theorem lexLt2 (a b c d : Int) : HT.lexLt [a, b] [c, d] = (decide (a < c) || (decide (a = c) && decide (b < d))) := by
  simp only [HT.lexLt]
  by_cases h1 : a = c
  · subst h1
    by_cases h2 : b = d
    · subst h2; simp
    · simp [h2]
  · simp [h1]
theorem lt_nat (a b : Nat) (S : Sto) : opLt (.pd (nD a)) (.pd (nD b)) S = .ok (.bl (decide (a < b))) S := by
  rw [opLt_int]; simp
theorem lt_tie (p q : Nat × Nat) (S : Sto) : opLt (.pd (tieD p)) (.pd (tieD q)) S = .ok (.bl (decide (tlt p q))) S := by
  obtain ⟨a, b⟩ := p
  obtain ⟨c, d⟩ := q
  show Out.ok (D.bl (HT.lexLt [(a : Int), (b : Int)] [(c : Int), (d : Int)])) S = _
  rw [lexLt2]
  have : ∀ x y : Bool, (x = true ↔ y = true) → x = y := by decide
  refine congrArg (fun b => Out.ok (D.bl b) S) (this _ _ ?_)
  simp only [Bool.or_eq_true, Bool.and_eq_true, decide_eq_true_eq]
  show _ ↔ (a < c ∨ (a = c ∧ b < d))
  omega
theorem cut1 {α : Type} (xs : List α) : cut xs (some 1) none = xs.drop 1 := by
  cases xs with
  | nil => simp [cut]
  | cons x r =>
    simp [cut, HT.sIx]
theorem zip_tl {α : Type} {R : α → α → Prop} : ∀ {xs : List α}, xs.Pairwise R → ∀ p ∈ xs.zip (xs.drop 1), R p.1 p.2
  | [], _, p, h => by simp at h
  | [x], _, p, h => by simp at h
  | x :: y :: r, hp, p, h => by
    rw [List.pairwise_cons] at hp
    simp only [List.drop_succ_cons, List.drop_zero, List.zip_cons_cons] at h
    rcases List.mem_cons.mp h with rfl | h
    · exact hp.1 y List.mem_cons_self
    · exact zip_tl hp.2 p (by simpa using h)
theorem are_rising_of {α : Type} (enc : α → PyData) (R : α → α → Prop) (hlt : ∀ a b S, R a b → opLt (.pd (enc a)) (.pd (enc b)) S = .ok (.bl true) S) (xs : List α) (hp : xs.Pairwise R) (hl : xs.length ≤ 100000) : f_are_rising [.tup (xs.map enc)] [] = .ok (.bl true) [] := by
  refine runF_pure (S' := []) ?_
  have z : zipIt (xs.map enc) ((xs.map enc).drop 1) = (xs.zip (xs.drop 1)).map fun p => D.tup [enc p.1, enc p.2] := by
    unfold zipIt
    rw [← List.map_drop, List.zipWith_map, List.zip]
    rw [List.map_zipWith]
  have e : eLc [1, 2] (DL.iZip (lCons (eVar 0) (lCons (eSlice (eVar 0) (mBind (eK (.int 1)) asI) (mRet none)) lNil))) (tgTup (tgCons (tgName 1) (tgCons (tgName 2) tgNil))) (mRet true) qare_rising_e1 [some (.tup (xs.map enc)), none, none] [] = .ok (.lst ((xs.zip (xs.drop 1)).map fun _ => .bool true)) [] := by
    refine eLc_all (gu := .no) (xs.zip (xs.drop 1)) (fun p => D.tup [enc p.1, enc p.2]) (fun _ => .bool true) ?_ (by exact trivial) (fun p hm => ⟨_, rfl, ?_⟩) (le_size ?_)
    · unfold DL.iZip
      simp only [Out.bind_ok, mBind_app, mRet_app, eVar_0, eVar_1, eVar_2, eVar_3, eVar_4, eVar_5, eVar_6, eVar_7, eVar_8, eVar_9, eVar_10, eK_app, eOp_app, asB_bl, eTest_app, tru_bl, eTru_app, eChain_app, bNot_app, bAnd_app, bOr_app, eNot_app, eAnd_app, eOr_app, eIf_app, eUn_app, lNil_app, lCons_app, eTup_app, eLst_app, eLstM_app, eCall_app, eSlice_app, asI_int, eMeth_app, sNext_app, sNever_app, sBrk_app, sCont_app, sSeq_app, sSet_app, sExpr_app, sRet_app, sRetN_app, sIf_app, sAsg_app, eRg1_app, eIsI_app, opAdd_int, opSub_int, opCmpI_int, opLt_int, opEq_int, tgName_app, tgNil_app, tgCons_app, tgTup_app, clr_nil', clr_cons', ofO_some, opIx_tup0, opIx_tup1, fLen_tup, fLen_lst, fTuple_lst, startD, isTy, List.map_cons, List.map_nil, List.length_cons, List.length_nil, List.cons_append, List.nil_append, List.replicate, Nat.reduceAdd, Nat.reduceSub, List.set_cons_zero, List.set_cons_succ, reduceIte, eq_self, Bool.false_eq_true, Bool.not_true, Bool.not_false, Option.bind_some, Bool.xor_false, Bool.xor_true, decide_true, decide_false, slD, cut1, wkZip]
      rw [z]
    · simp only [Out.bind_ok, mBind_app, mRet_app, eVar_0, eVar_1, eVar_2, eVar_3, eVar_4, eVar_5, eVar_6, eVar_7, eVar_8, eVar_9, eVar_10, eK_app, eOp_app, asB_bl, eTest_app, tru_bl, eTru_app, eChain_app, bNot_app, bAnd_app, bOr_app, eNot_app, eAnd_app, eOr_app, eIf_app, eUn_app, lNil_app, lCons_app, eTup_app, eLst_app, eLstM_app, eCall_app, eSlice_app, asI_int, eMeth_app, sNext_app, sNever_app, sBrk_app, sCont_app, sSeq_app, sSet_app, sExpr_app, sRet_app, sRetN_app, sIf_app, sAsg_app, eRg1_app, eIsI_app, opAdd_int, opSub_int, opCmpI_int, opLt_int, opEq_int, tgName_app, tgNil_app, tgCons_app, tgTup_app, clr_nil', clr_cons', ofO_some, opIx_tup0, opIx_tup1, fLen_tup, fLen_lst, fTuple_lst, startD, isTy, List.map_cons, List.map_nil, List.length_cons, List.length_nil, List.cons_append, List.nil_append, List.replicate, Nat.reduceAdd, Nat.reduceSub, List.set_cons_zero, List.set_cons_succ, reduceIte, eq_self, Bool.false_eq_true, Bool.not_true, Bool.not_false, Option.bind_some, Bool.xor_false, Bool.xor_true, decide_true, decide_false, qare_rising_e1]
      exact hlt p.1 p.2 _ (zip_tl hp p hm)
    · rw [List.length_zip]; omega
  simp only [Out.bind_ok, mBind_app, mRet_app, eVar_0, eVar_1, eVar_2, eVar_3, eVar_4, eVar_5, eVar_6, eVar_7, eVar_8, eVar_9, eVar_10, eK_app, eOp_app, asB_bl, eTest_app, tru_bl, eTru_app, eChain_app, bNot_app, bAnd_app, bOr_app, eNot_app, eAnd_app, eOr_app, eIf_app, eUn_app, lNil_app, lCons_app, eTup_app, eLst_app, eLstM_app, eCall_app, eSlice_app, asI_int, eMeth_app, sNext_app, sNever_app, sBrk_app, sCont_app, sSeq_app, sSet_app, sExpr_app, sRet_app, sRetN_app, sIf_app, sAsg_app, eRg1_app, eIsI_app, opAdd_int, opSub_int, opCmpI_int, opLt_int, opEq_int, tgName_app, tgNil_app, tgCons_app, tgTup_app, clr_nil', clr_cons', ofO_some, opIx_tup0, opIx_tup1, fLen_tup, fLen_lst, fTuple_lst, startD, isTy, List.map_cons, List.map_nil, List.length_cons, List.length_nil, List.cons_append, List.nil_append, List.replicate, Nat.reduceAdd, Nat.reduceSub, List.set_cons_zero, List.set_cons_succ, reduceIte, eq_self, Bool.false_eq_true, Bool.not_true, Bool.not_false, Option.bind_some, Bool.xor_false, Bool.xor_true, decide_true, decide_false, m_are_rising, e, fAll_map]
  simp
theorem is_tie_nat (p : Nat × Nat) (m : Nat) (h : p.1 < p.2 ∧ p.2 < m) : f_is_tie [.pd (tieD p), .int m] [] = .ok (.bl true) [] := by
  refine runF_pure (S' := []) ?_
  have h1 := fun σ S => callF_pd (n := 2) (are_below_nat [p.1, p.2] m (by simp)) rfl rfl rfl rfl σ S
  have e : ([p.1, p.2].all fun x => decide (x < m)) = true := by simp; omega
  rw [e] at h1
  simp only [List.map_cons, List.map_nil] at h1
  simp [m_is_tie, startD, h1, opEq_int, h.1]
theorem is_web_ok {n : Nat} {ts : List (Nat × Nat)} (w : GW n ts) : f_is_web [.pd (webD n ts)] [] = .ok (.bl true) [] := by
  refine runF_pure (S' := []) ?_
  have h1 := fun σ S => callF_pd (n := 2) (is_below_int n 13) rfl rfl rfl rfl σ S
  have e1 : (decide (0 ≤ (n : Int)) && decide ((n : Int) < 13)) = true := by have := w.n12; simp; omega
  rw [e1] at h1
  have h2 := fun σ S => callF_pd (n := 1) (are_rising_of tieD tlt (fun p q S h => by rw [lt_tie, decide_eq_true h]) ts w.ris (by have := w.len; omega)) rfl rfl rfl rfl σ S
  have hn : decide ((n : Int) = 0) = false := by have := w.n1; simp; omega
  have e : eLc [3] (iSeq (eVar 2)) (tgName 3) (mRet true) qis_web_e1 [some (.pd (webD n ts)), some (.int n), some (.tup (ts.map tieD)), none] [] = .ok (.lst (ts.map fun _ => .bool true)) [] := by
    refine eLc_all (gu := .no) ts (fun p => .pd (tieD p)) (fun _ => .bool true) ((iSeq_tup (xs := ts.map tieD) (by simp)).trans (by rw [List.map_map]; rfl)) (by exact trivial) (fun p hp => ⟨_, rfl, ?_⟩) (le_size (by have := w.len; omega))
    have h3 := fun σ S => callF_pd (n := 2) (is_tie_nat p n (w.tie p hp)) rfl rfl rfl rfl σ S
    simp only [Out.bind_ok, mBind_app, mRet_app, eVar_0, eVar_1, eVar_2, eVar_3, eVar_4, eVar_5, eVar_6, eVar_7, eVar_8, eVar_9, eVar_10, eK_app, eOp_app, asB_bl, eTest_app, tru_bl, eTru_app, eChain_app, bNot_app, bAnd_app, bOr_app, eNot_app, eAnd_app, eOr_app, eIf_app, eUn_app, lNil_app, lCons_app, eTup_app, eLst_app, eLstM_app, eCall_app, eSlice_app, asI_int, eMeth_app, sNext_app, sNever_app, sBrk_app, sCont_app, sSeq_app, sSet_app, sExpr_app, sRet_app, sRetN_app, sIf_app, sAsg_app, eRg1_app, eIsI_app, opAdd_int, opSub_int, opCmpI_int, opLt_int, opEq_int, tgName_app, tgNil_app, tgCons_app, tgTup_app, clr_nil', clr_cons', ofO_some, opIx_tup0, opIx_tup1, fLen_tup, fLen_lst, fTuple_lst, startD, isTy, List.map_cons, List.map_nil, List.length_cons, List.length_nil, List.cons_append, List.nil_append, List.replicate, Nat.reduceAdd, Nat.reduceSub, List.set_cons_zero, List.set_cons_succ, reduceIte, eq_self, Bool.false_eq_true, Bool.not_true, Bool.not_false, Option.bind_some, Bool.xor_false, Bool.xor_true, decide_true, decide_false, qis_web_e1, h3]
  simp only [Out.bind_ok, mBind_app, mRet_app, eVar_0, eVar_1, eVar_2, eVar_3, eVar_4, eVar_5, eVar_6, eVar_7, eVar_8, eVar_9, eVar_10, eK_app, eOp_app, asB_bl, eTest_app, tru_bl, eTru_app, eChain_app, bNot_app, bAnd_app, bOr_app, eNot_app, eAnd_app, eOr_app, eIf_app, eUn_app, lNil_app, lCons_app, eTup_app, eLst_app, eLstM_app, eCall_app, eSlice_app, asI_int, eMeth_app, sNext_app, sNever_app, sBrk_app, sCont_app, sSeq_app, sSet_app, sExpr_app, sRet_app, sRetN_app, sIf_app, sAsg_app, eRg1_app, eIsI_app, opAdd_int, opSub_int, opCmpI_int, opLt_int, opEq_int, tgName_app, tgNil_app, tgCons_app, tgTup_app, clr_nil', clr_cons', ofO_some, opIx_tup0, opIx_tup1, fLen_tup, fLen_lst, fTuple_lst, startD, isTy, List.map_cons, List.map_nil, List.length_cons, List.length_nil, List.cons_append, List.nil_append, List.replicate, Nat.reduceAdd, Nat.reduceSub, List.set_cons_zero, List.set_cons_succ, reduceIte, eq_self, Bool.false_eq_true, Bool.not_true, Bool.not_false, Option.bind_some, Bool.xor_false, Bool.xor_true, decide_true, decide_false, m_is_web, h1, hn, e, h2, fAll_map, show (12 : Int) + 1 = 13 from rfl, show (((0 + 1 + 1 : Nat) : Int) = 2) from rfl]
  simp
theorem need_web_ok {n : Nat} {ts : List (Nat × Nat)} (w : GW n ts) : f_need_web [.pd (webD n ts)] [] = .ok .non [] := by
  have h := fun σ S => callF_pd (n := 1) (is_web_ok w) rfl rfl rfl rfl σ S
  refine runF_next (S' := []) (σ := [some (.pd (webD n ts))]) ?_
  simp only [Out.bind_ok, mBind_app, mRet_app, eVar_0, eVar_1, eVar_2, eVar_3, eVar_4, eVar_5, eVar_6, eVar_7, eVar_8, eVar_9, eVar_10, eK_app, eOp_app, asB_bl, eTest_app, tru_bl, eTru_app, eChain_app, bNot_app, bAnd_app, bOr_app, eNot_app, eAnd_app, eOr_app, eIf_app, eUn_app, lNil_app, lCons_app, eTup_app, eLst_app, eLstM_app, eCall_app, eSlice_app, asI_int, eMeth_app, sNext_app, sNever_app, sBrk_app, sCont_app, sSeq_app, sSet_app, sExpr_app, sRet_app, sRetN_app, sIf_app, sAsg_app, eRg1_app, eIsI_app, opAdd_int, opSub_int, opCmpI_int, opLt_int, opEq_int, tgName_app, tgNil_app, tgCons_app, tgTup_app, clr_nil', clr_cons', ofO_some, opIx_tup0, opIx_tup1, fLen_tup, fLen_lst, fTuple_lst, startD, isTy, List.map_cons, List.map_nil, List.length_cons, List.length_nil, List.cons_append, List.nil_append, List.replicate, Nat.reduceAdd, Nat.reduceSub, List.set_cons_zero, List.set_cons_succ, reduceIte, eq_self, Bool.false_eq_true, Bool.not_true, Bool.not_false, Option.bind_some, Bool.xor_false, Bool.xor_true, decide_true, decide_false, m_need_web, h]
theorem need_seat_ok {n : Nat} {ts : List (Nat × Nat)} {s : Nat} (hs : s < n) : f_need_seat [.pd (webD n ts), .int s] [] = .ok .non [] := by
  have h := fun σ S => callF_pd (n := 2) (is_below_nat s n) rfl rfl rfl rfl σ S
  rw [decide_eq_true hs] at h
  refine runF_next (S' := []) (σ := [some (.pd (webD n ts)), some (.int s)]) ?_
  simp only [Out.bind_ok, mBind_app, mRet_app, eVar_0, eVar_1, eVar_2, eVar_3, eVar_4, eVar_5, eVar_6, eVar_7, eVar_8, eVar_9, eVar_10, eK_app, eOp_app, asB_bl, eTest_app, tru_bl, eTru_app, eChain_app, bNot_app, bAnd_app, bOr_app, eNot_app, eAnd_app, eOr_app, eIf_app, eUn_app, lNil_app, lCons_app, eTup_app, eLst_app, eLstM_app, eCall_app, eSlice_app, asI_int, eMeth_app, sNext_app, sNever_app, sBrk_app, sCont_app, sSeq_app, sSet_app, sExpr_app, sRet_app, sRetN_app, sIf_app, sAsg_app, eRg1_app, eIsI_app, opAdd_int, opSub_int, opCmpI_int, opLt_int, opEq_int, tgName_app, tgNil_app, tgCons_app, tgTup_app, clr_nil', clr_cons', ofO_some, opIx_tup0, opIx_tup1, fLen_tup, fLen_lst, fTuple_lst, startD, isTy, List.map_cons, List.map_nil, List.length_cons, List.length_nil, List.cons_append, List.nil_append, List.replicate, Nat.reduceAdd, Nat.reduceSub, List.set_cons_zero, List.set_cons_succ, reduceIte, eq_self, Bool.false_eq_true, Bool.not_true, Bool.not_false, Option.bind_some, Bool.xor_false, Bool.xor_true, decide_true, decide_false, m_need_seat, h]
theorem need_seats_ok {n : Nat} {ts : List (Nat × Nat)} {l : List Nat} (hl : ∀ s ∈ l, s < n) (hr : l.Pairwise (· < ·)) (hz : l.length ≤ 100000) : f_need_seats [.pd (webD n ts), .tup (l.map nD)] [] = .ok .non [] := by
  have h := fun σ S => callF_pd (n := 2) (are_below_nat l n hz) rfl rfl rfl rfl σ S
  have e : (l.all fun x => decide (x < n)) = true := by
    rw [List.all_eq_true]
    exact fun x hx => decide_eq_true (hl x hx)
  rw [e] at h
  have h2 := fun σ S => callF_pd (n := 1) (are_rising_of nD (· < ·) (fun p q S h => by rw [lt_nat, decide_eq_true h]) l hr hz) rfl rfl rfl rfl σ S
  refine runF_next (S' := []) (σ := [some (.pd (webD n ts)), some (.tup (l.map nD))]) ?_
  simp only [Out.bind_ok, mBind_app, mRet_app, eVar_0, eVar_1, eVar_2, eVar_3, eVar_4, eVar_5, eVar_6, eVar_7, eVar_8, eVar_9, eVar_10, eK_app, eOp_app, asB_bl, eTest_app, tru_bl, eTru_app, eChain_app, bNot_app, bAnd_app, bOr_app, eNot_app, eAnd_app, eOr_app, eIf_app, eUn_app, lNil_app, lCons_app, eTup_app, eLst_app, eLstM_app, eCall_app, eSlice_app, asI_int, eMeth_app, sNext_app, sNever_app, sBrk_app, sCont_app, sSeq_app, sSet_app, sExpr_app, sRet_app, sRetN_app, sIf_app, sAsg_app, eRg1_app, eIsI_app, opAdd_int, opSub_int, opCmpI_int, opLt_int, opEq_int, tgName_app, tgNil_app, tgCons_app, tgTup_app, clr_nil', clr_cons', ofO_some, opIx_tup0, opIx_tup1, fLen_tup, fLen_lst, fTuple_lst, startD, isTy, List.map_cons, List.map_nil, List.length_cons, List.length_nil, List.cons_append, List.nil_append, List.replicate, Nat.reduceAdd, Nat.reduceSub, List.set_cons_zero, List.set_cons_succ, reduceIte, eq_self, Bool.false_eq_true, Bool.not_true, Bool.not_false, Option.bind_some, Bool.xor_false, Bool.xor_true, decide_true, decide_false, m_need_seats, h, h2]
/-- the seats that a seat has a tie with -/
def nb (ts : List (Nat × Nat)) (s : Nat) : List Nat := (ts.filter fun p => decide (p.1 = s) || decide (p.2 = s)).map fun p => p.1 + p.2 - s
theorem eqvI (a b : Nat) : PyData.eqv (.int a) (.int b) = decide (a = b) := by
  by_cases h : a = b
  · subst h; simp [PyData.eqv]
  · have : ¬ ((a : Int) = (b : Int)) := by omega
    simp [PyData.eqv, h, this]
theorem okEq_tup2 (a b : Int) : okEq (.tuple [.int a, .int b]) = true := by
  unfold okEq SeqAt.shaped; simp [PyData.canLay0, PyData.canLayAll0, PyData.depth, PyData.depthAll]
theorem neighbours_by_ok {n : Nat} {ts : List (Nat × Nat)} (s : Nat) (hl : ts.length ≤ 1000) : f_neighbours_by [.pd (webD n ts), .int s] [] = .ok (.tup ((nb ts s).map nD)) [] := by
  refine runF_pure (S' := []) ?_
  have e : eLc [2, 3] (iSeq (eOp opIx (eVar 0) (eK (.int 1)))) (tgTup (tgCons (tgName 2) (tgCons (tgName 3) tgNil))) qneighbours_by_t1 qneighbours_by_e2 [some (.pd (webD n ts)), some (.int s), none, none] [] =
      .ok (.lst ((ts.filter fun p => decide (p.1 = s) || decide (p.2 = s)).map fun p => nD (p.1 + p.2 - s))) [] := by
    refine eLc_map (gu := .no) ts (fun p => .pd (tieD p)) _ (fun p => nD (p.1 + p.2 - s)) ((iSeq_tup (xs := ts.map tieD) (by simp only [Out.bind_ok, mBind_app, mRet_app, eVar_0, eVar_1, eVar_2, eVar_3, eVar_4, eVar_5, eVar_6, eVar_7, eVar_8, eVar_9, eVar_10, eK_app, eOp_app, asB_bl, eTest_app, tru_bl, eTru_app, eChain_app, bNot_app, bAnd_app, bOr_app, eNot_app, eAnd_app, eOr_app, eIf_app, eUn_app, lNil_app, lCons_app, eTup_app, eLst_app, eLstM_app, eCall_app, eSlice_app, asI_int, eMeth_app, sNext_app, sNever_app, sBrk_app, sCont_app, sSeq_app, sSet_app, sExpr_app, sRet_app, sRetN_app, sIf_app, sAsg_app, eRg1_app, eIsI_app, opAdd_int, opSub_int, opCmpI_int, opLt_int, opEq_int, tgName_app, tgNil_app, tgCons_app, tgTup_app, clr_nil', clr_cons', ofO_some, opIx_tup0, opIx_tup1, fLen_tup, fLen_lst, fTuple_lst, startD, isTy, List.map_cons, List.map_nil, List.length_cons, List.length_nil, List.cons_append, List.nil_append, List.replicate, Nat.reduceAdd, Nat.reduceSub, List.set_cons_zero, List.set_cons_succ, reduceIte, eq_self, Bool.false_eq_true, Bool.not_true, Bool.not_false, Option.bind_some, Bool.xor_false, Bool.xor_true, decide_true, decide_false])).trans (by rw [List.map_map]; rfl)) (by exact trivial) (fun p hp => ⟨_, rfl, ?_, fun h => ?_⟩) (le_size (by omega))
    · simp only [Out.bind_ok, mBind_app, mRet_app, eVar_0, eVar_1, eVar_2, eVar_3, eVar_4, eVar_5, eVar_6, eVar_7, eVar_8, eVar_9, eVar_10, eK_app, eOp_app, asB_bl, eTest_app, tru_bl, eTru_app, eChain_app, bNot_app, bAnd_app, bOr_app, eNot_app, eAnd_app, eOr_app, eIf_app, eUn_app, lNil_app, lCons_app, eTup_app, eLst_app, eLstM_app, eCall_app, eSlice_app, asI_int, eMeth_app, sNext_app, sNever_app, sBrk_app, sCont_app, sSeq_app, sSet_app, sExpr_app, sRet_app, sRetN_app, sIf_app, sAsg_app, eRg1_app, eIsI_app, opAdd_int, opSub_int, opCmpI_int, opLt_int, opEq_int, tgName_app, tgNil_app, tgCons_app, tgTup_app, clr_nil', clr_cons', ofO_some, opIx_tup0, opIx_tup1, fLen_tup, fLen_lst, fTuple_lst, startD, isTy, List.map_cons, List.map_nil, List.length_cons, List.length_nil, List.cons_append, List.nil_append, List.replicate, Nat.reduceAdd, Nat.reduceSub, List.set_cons_zero, List.set_cons_succ, reduceIte, eq_self, Bool.false_eq_true, Bool.not_true, Bool.not_false, Option.bind_some, Bool.xor_false, Bool.xor_true, decide_true, decide_false, qneighbours_by_t1, mkTup, pdL_cons, pdL_nil, Option.map_some]
      rw [if_pos (le_size (by omega))]
      simp only [Out.bind_ok, mBind_app, mRet_app, eVar_0, eVar_1, eVar_2, eVar_3, eVar_4, eVar_5, eVar_6, eVar_7, eVar_8, eVar_9, eVar_10, eK_app, eOp_app, asB_bl, eTest_app, tru_bl, eTru_app, eChain_app, bNot_app, bAnd_app, bOr_app, eNot_app, eAnd_app, eOr_app, eIf_app, eUn_app, lNil_app, lCons_app, eTup_app, eLst_app, eLstM_app, eCall_app, eSlice_app, asI_int, eMeth_app, sNext_app, sNever_app, sBrk_app, sCont_app, sSeq_app, sSet_app, sExpr_app, sRet_app, sRetN_app, sIf_app, sAsg_app, eRg1_app, eIsI_app, opAdd_int, opSub_int, opCmpI_int, opLt_int, opEq_int, tgName_app, tgNil_app, tgCons_app, tgTup_app, clr_nil', clr_cons', ofO_some, opIx_tup0, opIx_tup1, fLen_tup, fLen_lst, fTuple_lst, startD, isTy, List.map_cons, List.map_nil, List.length_cons, List.length_nil, List.cons_append, List.nil_append, List.replicate, Nat.reduceAdd, Nat.reduceSub, List.set_cons_zero, List.set_cons_succ, reduceIte, eq_self, Bool.false_eq_true, Bool.not_true, Bool.not_false, Option.bind_some, Bool.xor_false, Bool.xor_true, decide_true, decide_false, opIn, okEq_int, okEq_tup2, Bool.and_self]
      simp only [List.any_cons, List.any_nil, eqvI, Bool.or_false, Out.bind_ok, mBind_app, mRet_app, eVar_0, eVar_1, eVar_2, eVar_3, eVar_4, eVar_5, eVar_6, eVar_7, eVar_8, eVar_9, eVar_10, eK_app, eOp_app, asB_bl, eTest_app, tru_bl, eTru_app, eChain_app, bNot_app, bAnd_app, bOr_app, eNot_app, eAnd_app, eOr_app, eIf_app, eUn_app, lNil_app, lCons_app, eTup_app, eLst_app, eLstM_app, eCall_app, eSlice_app, asI_int, eMeth_app, sNext_app, sNever_app, sBrk_app, sCont_app, sSeq_app, sSet_app, sExpr_app, sRet_app, sRetN_app, sIf_app, sAsg_app, eRg1_app, eIsI_app, opAdd_int, opSub_int, opCmpI_int, opLt_int, opEq_int, tgName_app, tgNil_app, tgCons_app, tgTup_app, clr_nil', clr_cons', ofO_some, opIx_tup0, opIx_tup1, fLen_tup, fLen_lst, fTuple_lst, startD, isTy, List.map_cons, List.map_nil, List.length_cons, List.length_nil, List.cons_append, List.nil_append, List.replicate, Nat.reduceAdd, Nat.reduceSub, List.set_cons_zero, List.set_cons_succ, reduceIte, eq_self, Bool.false_eq_true, Bool.not_true, Bool.not_false, Option.bind_some, Bool.xor_false, Bool.xor_true, decide_true, decide_false]
    · simp only [Out.bind_ok, mBind_app, mRet_app, eVar_0, eVar_1, eVar_2, eVar_3, eVar_4, eVar_5, eVar_6, eVar_7, eVar_8, eVar_9, eVar_10, eK_app, eOp_app, asB_bl, eTest_app, tru_bl, eTru_app, eChain_app, bNot_app, bAnd_app, bOr_app, eNot_app, eAnd_app, eOr_app, eIf_app, eUn_app, lNil_app, lCons_app, eTup_app, eLst_app, eLstM_app, eCall_app, eSlice_app, asI_int, eMeth_app, sNext_app, sNever_app, sBrk_app, sCont_app, sSeq_app, sSet_app, sExpr_app, sRet_app, sRetN_app, sIf_app, sAsg_app, eRg1_app, eIsI_app, opAdd_int, opSub_int, opCmpI_int, opLt_int, opEq_int, tgName_app, tgNil_app, tgCons_app, tgTup_app, clr_nil', clr_cons', ofO_some, opIx_tup0, opIx_tup1, fLen_tup, fLen_lst, fTuple_lst, startD, isTy, List.map_cons, List.map_nil, List.length_cons, List.length_nil, List.cons_append, List.nil_append, List.replicate, Nat.reduceAdd, Nat.reduceSub, List.set_cons_zero, List.set_cons_succ, reduceIte, eq_self, Bool.false_eq_true, Bool.not_true, Bool.not_false, Option.bind_some, Bool.xor_false, Bool.xor_true, decide_true, decide_false, qneighbours_by_e2]
      simp only [Bool.or_eq_true, decide_eq_true_eq] at h
      show Out.ok (D.int (((p.1 : Int) + (p.2 : Int)) - (s : Int))) [] = Out.ok (D.int ((p.1 + p.2 - s : Nat) : Int)) []
      rw [show ((p.1 : Int) + (p.2 : Int)) - (s : Int) = ((p.1 + p.2 - s : Nat) : Int) by omega]
  simp only [Out.bind_ok, mBind_app, mRet_app, eVar_0, eVar_1, eVar_2, eVar_3, eVar_4, eVar_5, eVar_6, eVar_7, eVar_8, eVar_9, eVar_10, eK_app, eOp_app, asB_bl, eTest_app, tru_bl, eTru_app, eChain_app, bNot_app, bAnd_app, bOr_app, eNot_app, eAnd_app, eOr_app, eIf_app, eUn_app, lNil_app, lCons_app, eTup_app, eLst_app, eLstM_app, eCall_app, eSlice_app, asI_int, eMeth_app, sNext_app, sNever_app, sBrk_app, sCont_app, sSeq_app, sSet_app, sExpr_app, sRet_app, sRetN_app, sIf_app, sAsg_app, eRg1_app, eIsI_app, opAdd_int, opSub_int, opCmpI_int, opLt_int, opEq_int, tgName_app, tgNil_app, tgCons_app, tgTup_app, clr_nil', clr_cons', ofO_some, opIx_tup0, opIx_tup1, fLen_tup, fLen_lst, fTuple_lst, startD, isTy, List.map_cons, List.map_nil, List.length_cons, List.length_nil, List.cons_append, List.nil_append, List.replicate, Nat.reduceAdd, Nat.reduceSub, List.set_cons_zero, List.set_cons_succ, reduceIte, eq_self, Bool.false_eq_true, Bool.not_true, Bool.not_false, Option.bind_some, Bool.xor_false, Bool.xor_true, decide_true, decide_false, m_neighbours_by, e]
  unfold nb
  rw [List.map_map]
  rfl
theorem near_by_ok {n : Nat} {ts : List (Nat × Nat)} (hl : ts.length ≤ 1000) (hn : n ≤ 1000) : f_near_by [.pd (webD n ts)] [] = .ok (.lst ((List.range n).map fun s => .tuple ((nb ts s).map nD))) [] := by
  refine runF_pure (S' := []) ?_
  have e : eLc [1] (iRange1 (lCons (eOp opIx (eVar 0) (eK (.int 0))) lNil)) (tgName 1) (mRet true) qnear_by_e1 [some (.pd (webD n ts)), none] [] = .ok (.lst ((List.range n).map fun s => .tuple ((nb ts s).map nD))) [] := by
    refine eLc_all (gu := .no) (List.range n) (fun (i : Nat) => D.int i) _ (iRange1_nat (n := n) (by simp only [Out.bind_ok, mBind_app, mRet_app, eVar_0, eVar_1, eVar_2, eVar_3, eVar_4, eVar_5, eVar_6, eVar_7, eVar_8, eVar_9, eVar_10, eK_app, eOp_app, asB_bl, eTest_app, tru_bl, eTru_app, eChain_app, bNot_app, bAnd_app, bOr_app, eNot_app, eAnd_app, eOr_app, eIf_app, eUn_app, lNil_app, lCons_app, eTup_app, eLst_app, eLstM_app, eCall_app, eSlice_app, asI_int, eMeth_app, sNext_app, sNever_app, sBrk_app, sCont_app, sSeq_app, sSet_app, sExpr_app, sRet_app, sRetN_app, sIf_app, sAsg_app, eRg1_app, eIsI_app, opAdd_int, opSub_int, opCmpI_int, opLt_int, opEq_int, tgName_app, tgNil_app, tgCons_app, tgTup_app, clr_nil', clr_cons', ofO_some, opIx_tup0, opIx_tup1, fLen_tup, fLen_lst, fTuple_lst, startD, isTy, List.map_cons, List.map_nil, List.length_cons, List.length_nil, List.cons_append, List.nil_append, List.replicate, Nat.reduceAdd, Nat.reduceSub, List.set_cons_zero, List.set_cons_succ, reduceIte, eq_self, Bool.false_eq_true, Bool.not_true, Bool.not_false, Option.bind_some, Bool.xor_false, Bool.xor_true, decide_true, decide_false]) (by omega)) (by exact trivial) (fun s hs => ⟨_, rfl, ?_⟩) (le_size (by rw [List.length_range]; omega))
    have h := fun σ S => callF_pd (n := 2) (neighbours_by_ok (n := n) s hl) rfl rfl rfl rfl σ S
    simp only [Out.bind_ok, mBind_app, mRet_app, eVar_0, eVar_1, eVar_2, eVar_3, eVar_4, eVar_5, eVar_6, eVar_7, eVar_8, eVar_9, eVar_10, eK_app, eOp_app, asB_bl, eTest_app, tru_bl, eTru_app, eChain_app, bNot_app, bAnd_app, bOr_app, eNot_app, eAnd_app, eOr_app, eIf_app, eUn_app, lNil_app, lCons_app, eTup_app, eLst_app, eLstM_app, eCall_app, eSlice_app, asI_int, eMeth_app, sNext_app, sNever_app, sBrk_app, sCont_app, sSeq_app, sSet_app, sExpr_app, sRet_app, sRetN_app, sIf_app, sAsg_app, eRg1_app, eIsI_app, opAdd_int, opSub_int, opCmpI_int, opLt_int, opEq_int, tgName_app, tgNil_app, tgCons_app, tgTup_app, clr_nil', clr_cons', ofO_some, opIx_tup0, opIx_tup1, fLen_tup, fLen_lst, fTuple_lst, startD, isTy, List.map_cons, List.map_nil, List.length_cons, List.length_nil, List.cons_append, List.nil_append, List.replicate, Nat.reduceAdd, Nat.reduceSub, List.set_cons_zero, List.set_cons_succ, reduceIte, eq_self, Bool.false_eq_true, Bool.not_true, Bool.not_false, Option.bind_some, Bool.xor_false, Bool.xor_true, decide_true, decide_false, qnear_by_e1, h]
  simp only [Out.bind_ok, mBind_app, mRet_app, eVar_0, eVar_1, eVar_2, eVar_3, eVar_4, eVar_5, eVar_6, eVar_7, eVar_8, eVar_9, eVar_10, eK_app, eOp_app, asB_bl, eTest_app, tru_bl, eTru_app, eChain_app, bNot_app, bAnd_app, bOr_app, eNot_app, eAnd_app, eOr_app, eIf_app, eUn_app, lNil_app, lCons_app, eTup_app, eLst_app, eLstM_app, eCall_app, eSlice_app, asI_int, eMeth_app, sNext_app, sNever_app, sBrk_app, sCont_app, sSeq_app, sSet_app, sExpr_app, sRet_app, sRetN_app, sIf_app, sAsg_app, eRg1_app, eIsI_app, opAdd_int, opSub_int, opCmpI_int, opLt_int, opEq_int, tgName_app, tgNil_app, tgCons_app, tgTup_app, clr_nil', clr_cons', ofO_some, opIx_tup0, opIx_tup1, fLen_tup, fLen_lst, fTuple_lst, startD, isTy, List.map_cons, List.map_nil, List.length_cons, List.length_nil, List.cons_append, List.nil_append, List.replicate, Nat.reduceAdd, Nat.reduceSub, List.set_cons_zero, List.set_cons_succ, reduceIte, eq_self, Bool.false_eq_true, Bool.not_true, Bool.not_false, Option.bind_some, Bool.xor_false, Bool.xor_true, decide_true, decide_false, m_near_by, e]
/-! ### the queue -/
abbrev encK (fs : List (Nat × Nat)) : List (Key × D) := fs.map fun p => ((.inl (p.1 : Int) : Key), D.int p.2)
theorem valD_enc (v : Nat) : ∀ fs : List (Nat × Nat), valD (encK fs) (.inl (v : Int)) = (PG.look fs v).map fun (d : Nat) => D.int d
  | [] => rfl
  | (a, b) :: r => by
    by_cases h : v = a
    · subst h
      simp [valD, PG.look, List.lookup]
    · have e : (v == a) = false := by simpa using h
      have h2 : ¬ ((Sum.inl (a : Int) : Key) = Sum.inl (v : Int)) := by
        intro z
        have := Sum.inl.inj z
        omega
      have := valD_enc v r
      unfold PG.look at this ⊢
      rw [List.lookup_cons, e]
      simp only [valD, List.map_cons, List.find?_cons, h2, decide_false] at this ⊢
      exact this
theorem putD_enc {fs : List (Nat × Nat)} {o k : Nat} (h : PG.look fs o = none) : putD (encK fs) (.inl (o : Int)) (.int k) = encK (fs ++ [(o, k)]) := by
  have hv := valD_enc o fs
  rw [h] at hv
  have hn : ((encK fs).any fun kv => decide (kv.1 = .inl (o : Int))) = false := by
    rw [List.any_eq_false]
    intro x hx
    cases e : decide (x.1 = (.inl (o : Int) : Key)) with
    | false => simp
    | true =>
      exfalso
      unfold valD at hv
      rw [Option.map_none, Option.map_eq_none_iff, List.find?_eq_none] at hv
      exact hv x hx e
  unfold putD
  rw [if_neg (by rw [hn]; exact Bool.false_ne_true)]
  simp [encK]
theorem dctAt_0 {S : Sto} {n : Nat} {kvs : List (Key × D)} (h : S[n]? = some (.dct kvs)) : dctAt S (.ref n) = some (n, kvs) := by
  unfold dctAt; simp [h]
theorem lstAt_0 {S : Sto} {n : Nat} {xs : List D} (h : S[n]? = some (.lst xs)) : lstAt S (.ref n) = some (n, xs) := by
  unfold lstAt; simp [h]
theorem tyD_0 {S : Sto} {n : Nat} {xs : List D} (h : S[n]? = some (.lst xs)) : tyD S (.ref n) = some "list" := by
  unfold tyD; simp [h]
abbrev qD (q : List Nat) : List D := q.map fun (u : Nat) => D.int u
theorem look_push {k : Nat} {fs : List (Nat × Nat)} {q : List Nat} {o h d : Nat} (e : PG.look fs h = some d) : PG.look (PG.push k (fs, q) o).1 h = some d := by
  unfold PG.push
  split
  · exact e
  · rename_i hs
    have hn : PG.look fs o = none := by
      cases e : PG.look fs o with
      | none => rfl
      | some x => rw [e] at hs; exact absurd rfl hs
    rw [PG.look_app hn, if_neg (fun z => by rw [z, hn] at e; cases e)]
    exact e
theorem push_len (k : Nat) (fs : List (Nat × Nat)) (q : List Nat) (o : Nat) : (PG.push k (fs, q) o).1.length ≤ fs.length + 1 ∧ (PG.push k (fs, q) o).2.length ≤ q.length + 1 := by
  unfold PG.push
  split
  · exact ⟨Nat.le_succ _, Nat.le_succ _⟩
  · simp
theorem pushes_len (k : Nat) : ∀ (ns : List Nat) (fs : List (Nat × Nat)) (q : List Nat), (ns.foldl (PG.push k) (fs, q)).1.length ≤ fs.length + ns.length
  | [], fs, q => Nat.le_refl _
  | o :: ns, fs, q => by
    rw [List.foldl_cons]
    have h1 := push_len k fs q o
    have h2 := pushes_len k ns (PG.push k (fs, q) o).1 (PG.push k (fs, q) o).2
    rw [List.length_cons]
    have h3 : (ns.foldl (PG.push k) (PG.push k (fs, q) o)).1.length ≤ (PG.push k (fs, q) o).1.length + ns.length := h2
    omega
/-- what stands while the neighbours of h are gone through -/
structure At (w s nr : D) (h r : Nat) (fs : List (Nat × Nat)) (q : List Nat) (σ : Sl) (S : Sto) : Prop where
  sl : σ = [some w, some s, some nr, some (.ref 0), some (.ref r), some (.int h), none, none]
  s0 : S[0]? = some (.dct (encK fs))
  sr : S[r]? = some (.lst (qD q))
  r0 : r ≠ 0
theorem one_push {w s nr : D} {h r k : Nat} {fs : List (Nat × Nat)} {q : List Nat} {σ : Sl} {S : Sto} (a : At w s nr h r fs q σ S) (hk : PG.look fs h = some k) (hf : fs.length ≤ 90000) (hq : q.length ≤ 90000) (o : Nat) :
    Sat (qsteps_by_b3 [some w, some s, some nr, some (.ref 0), some (.ref r), some (.int h), some (.int o), none] S) fun f S' => ∃ σ2, f = .next σ2 ∧ At w s nr h r (PG.push k (fs, q) o).1 (PG.push k (fs, q) o).2 (clr [6] σ2) S' := by
  obtain ⟨rfl, s0, sr, r0⟩ := a
  have hko : keyD (.int (o : Int)) = some (.inl (o : Int)) := rfl
  have hkh : keyD (.int (h : Int)) = some (.inl (h : Int)) := rfl
  have e1 : opDIn true (.int o) (.ref 0) S = .ok (.bl (!(PG.look fs o).isSome)) S := by
    unfold opDIn
    simp only [dctAt_0 s0, hko]
    rw [valD_enc, Option.isSome_map]
    cases (PG.look fs o).isSome <;> rfl
  unfold PG.push
  cases ho : (PG.look fs o).isSome with
  | true =>
    refine ⟨.next [some w, some s, some nr, some (.ref 0), some (.ref r), some (.int h), some (.int o), none], S, ?_, _, rfl, ?_⟩
    · simp only [qsteps_by_b3, Out.bind_ok, mBind_app, mRet_app, eVar_0, eVar_1, eVar_2, eVar_3, eVar_4, eVar_5, eVar_6, eVar_7, eVar_8, eVar_9, eVar_10, eK_app, eOp_app, asB_bl, eTest_app, tru_bl, eTru_app, eChain_app, bNot_app, bAnd_app, bOr_app, eNot_app, eAnd_app, eOr_app, eIf_app, eUn_app, lNil_app, lCons_app, eTup_app, eLst_app, eLstM_app, eCall_app, eSlice_app, asI_int, eMeth_app, sNext_app, sNever_app, sBrk_app, sCont_app, sSeq_app, sSet_app, sExpr_app, sRet_app, sRetN_app, sIf_app, sAsg_app, eRg1_app, eIsI_app, opAdd_int, opSub_int, opCmpI_int, opLt_int, opEq_int, tgName_app, tgNil_app, tgCons_app, tgTup_app, clr_nil', clr_cons', ofO_some, opIx_tup0, opIx_tup1, fLen_tup, fLen_lst, fTuple_lst, startD, isTy, List.map_cons, List.map_nil, List.length_cons, List.length_nil, List.cons_append, List.nil_append, List.replicate, Nat.reduceAdd, Nat.reduceSub, List.set_cons_zero, List.set_cons_succ, reduceIte, eq_self, Bool.false_eq_true, Bool.not_true, Bool.not_false, Option.bind_some, Bool.xor_false, Bool.xor_true, decide_true, decide_false, e1, ho]
    · simp only [ho, if_true, Out.bind_ok, mBind_app, mRet_app, eVar_0, eVar_1, eVar_2, eVar_3, eVar_4, eVar_5, eVar_6, eVar_7, eVar_8, eVar_9, eVar_10, eK_app, eOp_app, asB_bl, eTest_app, tru_bl, eTru_app, eChain_app, bNot_app, bAnd_app, bOr_app, eNot_app, eAnd_app, eOr_app, eIf_app, eUn_app, lNil_app, lCons_app, eTup_app, eLst_app, eLstM_app, eCall_app, eSlice_app, asI_int, eMeth_app, sNext_app, sNever_app, sBrk_app, sCont_app, sSeq_app, sSet_app, sExpr_app, sRet_app, sRetN_app, sIf_app, sAsg_app, eRg1_app, eIsI_app, opAdd_int, opSub_int, opCmpI_int, opLt_int, opEq_int, tgName_app, tgNil_app, tgCons_app, tgTup_app, clr_nil', clr_cons', ofO_some, opIx_tup0, opIx_tup1, fLen_tup, fLen_lst, fTuple_lst, startD, isTy, List.map_cons, List.map_nil, List.length_cons, List.length_nil, List.cons_append, List.nil_append, List.replicate, Nat.reduceAdd, Nat.reduceSub, List.set_cons_zero, List.set_cons_succ, reduceIte, eq_self, Bool.false_eq_true, Bool.not_true, Bool.not_false, Option.bind_some, Bool.xor_false, Bool.xor_true, decide_true, decide_false]
      exact ⟨rfl, s0, sr, r0⟩
  | false =>
    have hn : PG.look fs o = none := by simpa using ho
    have e2 : opDIx (.ref 0) (.int h) S = .ok (.int k) S := by
      unfold opDIx
      simp only [dctAt_0 s0, hkh]
      rw [valD_enc, hk]
      rfl
    have s1 : (S.set 0 (.dct (encK (fs ++ [(o, k + 1)]))))[r]? = some (.lst (qD q)) := by
      rw [List.getElem?_set_ne (fun z => r0 z.symm)]; exact sr
    refine ⟨.next [some w, some s, some nr, some (.ref 0), some (.ref r), some (.int h), some (.int o), none], (S.set 0 (.dct (encK (fs ++ [(o, k + 1)])))).set r (.lst (qD q ++ [.int o])), ?_, _, rfl, ?_⟩
    · simp only [qsteps_by_b3, Out.bind_ok, mBind_app, mRet_app, eVar_0, eVar_1, eVar_2, eVar_3, eVar_4, eVar_5, eVar_6, eVar_7, eVar_8, eVar_9, eVar_10, eK_app, eOp_app, asB_bl, eTest_app, tru_bl, eTru_app, eChain_app, bNot_app, bAnd_app, bOr_app, eNot_app, eAnd_app, eOr_app, eIf_app, eUn_app, lNil_app, lCons_app, eTup_app, eLst_app, eLstM_app, eCall_app, eSlice_app, asI_int, eMeth_app, sNext_app, sNever_app, sBrk_app, sCont_app, sSeq_app, sSet_app, sExpr_app, sRet_app, sRetN_app, sIf_app, sAsg_app, eRg1_app, eIsI_app, opAdd_int, opSub_int, opCmpI_int, opLt_int, opEq_int, tgName_app, tgNil_app, tgCons_app, tgTup_app, clr_nil', clr_cons', ofO_some, opIx_tup0, opIx_tup1, fLen_tup, fLen_lst, fTuple_lst, startD, isTy, List.map_cons, List.map_nil, List.length_cons, List.length_nil, List.cons_append, List.nil_append, List.replicate, Nat.reduceAdd, Nat.reduceSub, List.set_cons_zero, List.set_cons_succ, reduceIte, eq_self, Bool.false_eq_true, Bool.not_true, Bool.not_false, Option.bind_some, Bool.xor_false, Bool.xor_true, decide_true, decide_false, e1, ho, sDPutD, e2, dctAt_0 s0, hko]
      rw [if_pos (by rw [List.length_map, sizeLine_eq]; omega)]
      have hc : ((k : Int) + 1) = ((k + 1 : Nat) : Int) := by omega
      simp only [Out.bind_ok, mBind_app, mRet_app, eVar_0, eVar_1, eVar_2, eVar_3, eVar_4, eVar_5, eVar_6, eVar_7, eVar_8, eVar_9, eVar_10, eK_app, eOp_app, asB_bl, eTest_app, tru_bl, eTru_app, eChain_app, bNot_app, bAnd_app, bOr_app, eNot_app, eAnd_app, eOr_app, eIf_app, eUn_app, lNil_app, lCons_app, eTup_app, eLst_app, eLstM_app, eCall_app, eSlice_app, asI_int, eMeth_app, sNext_app, sNever_app, sBrk_app, sCont_app, sSeq_app, sSet_app, sExpr_app, sRet_app, sRetN_app, sIf_app, sAsg_app, eRg1_app, eIsI_app, opAdd_int, opSub_int, opCmpI_int, opLt_int, opEq_int, tgName_app, tgNil_app, tgCons_app, tgTup_app, clr_nil', clr_cons', ofO_some, opIx_tup0, opIx_tup1, fLen_tup, fLen_lst, fTuple_lst, startD, isTy, List.map_cons, List.map_nil, List.length_cons, List.length_nil, List.cons_append, List.nil_append, List.replicate, Nat.reduceAdd, Nat.reduceSub, List.set_cons_zero, List.set_cons_succ, reduceIte, eq_self, Bool.false_eq_true, Bool.not_true, Bool.not_false, Option.bind_some, Bool.xor_false, Bool.xor_true, decide_true, decide_false]
      rw [hc, putD_enc hn]
      simp only [Out.bind_ok, mBind_app, mRet_app, eVar_0, eVar_1, eVar_2, eVar_3, eVar_4, eVar_5, eVar_6, eVar_7, eVar_8, eVar_9, eVar_10, eK_app, eOp_app, asB_bl, eTest_app, tru_bl, eTru_app, eChain_app, bNot_app, bAnd_app, bOr_app, eNot_app, eAnd_app, eOr_app, eIf_app, eUn_app, lNil_app, lCons_app, eTup_app, eLst_app, eLstM_app, eCall_app, eSlice_app, asI_int, eMeth_app, sNext_app, sNever_app, sBrk_app, sCont_app, sSeq_app, sSet_app, sExpr_app, sRet_app, sRetN_app, sIf_app, sAsg_app, eRg1_app, eIsI_app, opAdd_int, opSub_int, opCmpI_int, opLt_int, opEq_int, tgName_app, tgNil_app, tgCons_app, tgTup_app, clr_nil', clr_cons', ofO_some, opIx_tup0, opIx_tup1, fLen_tup, fLen_lst, fTuple_lst, startD, isTy, List.map_cons, List.map_nil, List.length_cons, List.length_nil, List.cons_append, List.nil_append, List.replicate, Nat.reduceAdd, Nat.reduceSub, List.set_cons_zero, List.set_cons_succ, reduceIte, eq_self, Bool.false_eq_true, Bool.not_true, Bool.not_false, Option.bind_some, Bool.xor_false, Bool.xor_true, decide_true, decide_false, tyD_0 s1, mAppend, lstAt_0 s1]
      rw [if_pos (by rw [List.length_map, sizeLine_eq]; omega)]
      rfl
    · have hl : 0 < S.length := (List.getElem?_eq_some_iff.mp s0).1
      have hr : r < S.length := (List.getElem?_eq_some_iff.mp sr).1
      simp only [ho, Bool.false_eq_true, if_false, Out.bind_ok, mBind_app, mRet_app, eVar_0, eVar_1, eVar_2, eVar_3, eVar_4, eVar_5, eVar_6, eVar_7, eVar_8, eVar_9, eVar_10, eK_app, eOp_app, asB_bl, eTest_app, tru_bl, eTru_app, eChain_app, bNot_app, bAnd_app, bOr_app, eNot_app, eAnd_app, eOr_app, eIf_app, eUn_app, lNil_app, lCons_app, eTup_app, eLst_app, eLstM_app, eCall_app, eSlice_app, asI_int, eMeth_app, sNext_app, sNever_app, sBrk_app, sCont_app, sSeq_app, sSet_app, sExpr_app, sRet_app, sRetN_app, sIf_app, sAsg_app, eRg1_app, eIsI_app, opAdd_int, opSub_int, opCmpI_int, opLt_int, opEq_int, tgName_app, tgNil_app, tgCons_app, tgTup_app, clr_nil', clr_cons', ofO_some, opIx_tup0, opIx_tup1, fLen_tup, fLen_lst, fTuple_lst, startD, isTy, List.map_cons, List.map_nil, List.length_cons, List.length_nil, List.cons_append, List.nil_append, List.replicate, Nat.reduceAdd, Nat.reduceSub, List.set_cons_zero, List.set_cons_succ, reduceIte, eq_self, Bool.false_eq_true, Bool.not_true, Bool.not_false, Option.bind_some, Bool.xor_false, Bool.xor_true, decide_true, decide_false]
      refine ⟨rfl, ?_, ?_, r0⟩
      · rw [List.getElem?_set_ne r0, List.getElem?_set_self hl]
      · rw [List.getElem?_set_self (by rw [List.length_set]; exact hr)]
        simp [qD]
theorem pushes {w s nr : D} {h r k : Nat} : ∀ (ns : List Nat) {fs : List (Nat × Nat)} {q : List Nat} {σ : Sl} {S : Sto}, At w s nr h r fs q σ S → PG.look fs h = some k → fs.length + ns.length ≤ 90000 → q.length + ns.length ≤ 90000 →
    Sat (forGo .no (tgName 6) qsteps_by_b3 [6] (ns.map fun (o : Nat) => D.int o) σ S) fun f S' => ∃ σ2, f = .next σ2 ∧ At w s nr h r (ns.foldl (PG.push k) (fs, q)).1 (ns.foldl (PG.push k) (fs, q)).2 σ2 S'
  | [], fs, q, σ, S, a, _, _, _ => by
    show Sat (forGo .no (tgName 6) qsteps_by_b3 [6] [] σ S) _
    unfold forGo
    rw [if_pos (by exact trivial)]
    exact .ok ⟨σ, rfl, a⟩
  | o :: ns, fs, q, σ, S, a, hk, hf, hq => by
    rw [List.length_cons] at hf hq
    have h1 := push_len k fs q o
    obtain ⟨f, S', e, σ2, rfl, a'⟩ := one_push a hk (by omega) (by omega) o
    have ih := pushes ns (fs := (PG.push k (fs, q) o).1) (q := (PG.push k (fs, q) o).2) a' (look_push hk) (by omega) (by omega)
    show Sat (forGo .no (tgName 6) qsteps_by_b3 [6] (.int o :: ns.map fun (o : Nat) => D.int o) σ S) _
    unfold forGo
    rw [if_pos (by exact trivial)]
    obtain ⟨rfl, _, _, _⟩ := a
    simp only [Out.bind_ok, mBind_app, mRet_app, eVar_0, eVar_1, eVar_2, eVar_3, eVar_4, eVar_5, eVar_6, eVar_7, eVar_8, eVar_9, eVar_10, eK_app, eOp_app, asB_bl, eTest_app, tru_bl, eTru_app, eChain_app, bNot_app, bAnd_app, bOr_app, eNot_app, eAnd_app, eOr_app, eIf_app, eUn_app, lNil_app, lCons_app, eTup_app, eLst_app, eLstM_app, eCall_app, eSlice_app, asI_int, eMeth_app, sNext_app, sNever_app, sBrk_app, sCont_app, sSeq_app, sSet_app, sExpr_app, sRet_app, sRetN_app, sIf_app, sAsg_app, eRg1_app, eIsI_app, opAdd_int, opSub_int, opCmpI_int, opLt_int, opEq_int, tgName_app, tgNil_app, tgCons_app, tgTup_app, clr_nil', clr_cons', ofO_some, opIx_tup0, opIx_tup1, fLen_tup, fLen_lst, fTuple_lst, startD, isTy, List.map_cons, List.map_nil, List.length_cons, List.length_nil, List.cons_append, List.nil_append, List.replicate, Nat.reduceAdd, Nat.reduceSub, List.set_cons_zero, List.set_cons_succ, reduceIte, eq_self, Bool.false_eq_true, Bool.not_true, Bool.not_false, Option.bind_some, Bool.xor_false, Bool.xor_true, decide_true, decide_false] at e ⊢
    rw [e]
    simp only [Out.bind_ok, mBind_app, mRet_app, eVar_0, eVar_1, eVar_2, eVar_3, eVar_4, eVar_5, eVar_6, eVar_7, eVar_8, eVar_9, eVar_10, eK_app, eOp_app, asB_bl, eTest_app, tru_bl, eTru_app, eChain_app, bNot_app, bAnd_app, bOr_app, eNot_app, eAnd_app, eOr_app, eIf_app, eUn_app, lNil_app, lCons_app, eTup_app, eLst_app, eLstM_app, eCall_app, eSlice_app, asI_int, eMeth_app, sNext_app, sNever_app, sBrk_app, sCont_app, sSeq_app, sSet_app, sExpr_app, sRet_app, sRetN_app, sIf_app, sAsg_app, eRg1_app, eIsI_app, opAdd_int, opSub_int, opCmpI_int, opLt_int, opEq_int, tgName_app, tgNil_app, tgCons_app, tgTup_app, clr_nil', clr_cons', ofO_some, opIx_tup0, opIx_tup1, fLen_tup, fLen_lst, fTuple_lst, startD, isTy, List.map_cons, List.map_nil, List.length_cons, List.length_nil, List.cons_append, List.nil_append, List.replicate, Nat.reduceAdd, Nat.reduceSub, List.set_cons_zero, List.set_cons_succ, reduceIte, eq_self, Bool.false_eq_true, Bool.not_true, Bool.not_false, Option.bind_some, Bool.xor_false, Bool.xor_true, decide_true, decide_false]
    exact ih
theorem okEq_ints (l : List Nat) : okEq (.list (l.map nD)) = true := by
  unfold okEq SeqAt.shaped
  have h1 : ∀ l : List Nat, PyData.canLayAll0 (l.map nD) = true := fun l => by
    induction l with
    | nil => rfl
    | cons x r ih => rw [List.map_cons, PyData.canLayAll0, ih]; rfl
  have h2 : ∀ l : List Nat, PyData.depthAll (l.map nD) = 0 := fun l => by
    induction l with
    | nil => rfl
    | cons x r ih => rw [List.map_cons, PyData.depthAll, ih]; rfl
  simp [PyData.canLay0, PyData.depth, h1, h2]
theorem qD_pd (q : List Nat) : qD q = (q.map nD).map D.pd := by rw [List.map_map]; rfl
theorem neNil {S : Sto} {r : Nat} {q : List Nat} (h : S[r]? = some (.lst (qD q))) : opEq true (.ref r) (.lst []) S = .ok (.bl (!q.isEmpty)) S := by
  have hv : view S (.ref r) = some (.list (q.map nD)) := by
    unfold view
    simp only [h, qD_pd, pdL_map, Option.map_some]
  show opEq0 true (.ref r) (.lst []) S = _
  unfold opEq0
  simp only [hv]
  have hv2 : view S (.lst []) = some (.list []) := rfl
  have h0 : okEq (.list []) = true := okEq_ints []
  simp only [hv2, okEq_ints, h0, Bool.and_self, if_true]
  cases q with
  | nil => rfl
  | cons x r => rfl
/-- between two turns of the while -/
structure Wh (w s nr : D) (r : Nat) (fs : List (Nat × Nat)) (q : List Nat) (σ : Sl) (S : Sto) : Prop where
  sl : σ = [some w, some s, some nr, some (.ref 0), some (.ref r), none, none, none]
  s0 : S[0]? = some (.dct (encK fs))
  sr : S[r]? = some (.lst (qD q))
  r0 : r ≠ 0
theorem turn_ok {w s : D} {n : Nat} {ts : List (Nat × Nat)} {r h k : Nat} {fs : List (Nat × Nat)} {q : List Nat} {σ : Sl} {S : Sto} (hn : h < n) (hl : ts.length ≤ 1000)
    (a : Wh w s (.lst ((List.range n).map fun s => .tuple ((nb ts s).map nD))) r fs (h :: q) σ S) (hk : PG.look fs h = some k) (hf : fs.length ≤ 50000) (hq : q.length ≤ 50000) :
    Sat (qsteps_by_b4 σ S) fun f S' => ∃ σ2 r2, f = .next σ2 ∧ Wh w s (.lst ((List.range n).map fun s => .tuple ((nb ts s).map nD))) r2 ((nb ts h).foldl (PG.push k) (fs, q)).1 ((nb ts h).foldl (PG.push k) (fs, q)).2 (clr [5, 6] σ2) S' := by
  obtain ⟨rfl, s0, sr, r0⟩ := a
  have hlS : r < S.length := (List.getElem?_eq_some_iff.mp sr).1
  have h0S : 0 < S.length := (List.getElem?_eq_some_iff.mp s0).1
  have hnb : (nb ts h).length ≤ 1000 := by
    unfold nb
    rw [List.length_map]
    exact Nat.le_trans (List.length_filter_le _ _) hl
  have e1 : sStarM 1 (tgCons (tgName 5) (tgCons (tgName 4) tgNil)) (eVar 4) [some w, some s, some (.lst ((List.range n).map fun s => .tuple ((nb ts s).map nD))), some (.ref 0), some (.ref r), none, none, none] S =
      .ok (.next [some w, some s, some (.lst ((List.range n).map fun s => .tuple ((nb ts s).map nD))), some (.ref 0), some (.ref S.length), some (.int h), none, none]) (S ++ [.lst (qD q)]) := by
    unfold sStarM
    have eq : asQ S (.ref r) = some (qD (h :: q)) := by unfold asQ asL; simp only [sr]
    simp only [Out.bind_ok, mBind_app, mRet_app, eVar_0, eVar_1, eVar_2, eVar_3, eVar_4, eVar_5, eVar_6, eVar_7, eVar_8, eVar_9, eVar_10, eK_app, eOp_app, asB_bl, eTest_app, tru_bl, eTru_app, eChain_app, bNot_app, bAnd_app, bOr_app, eNot_app, eAnd_app, eOr_app, eIf_app, eUn_app, lNil_app, lCons_app, eTup_app, eLst_app, eLstM_app, eCall_app, eSlice_app, asI_int, eMeth_app, sNext_app, sNever_app, sBrk_app, sCont_app, sSeq_app, sSet_app, sExpr_app, sRet_app, sRetN_app, sIf_app, sAsg_app, eRg1_app, eIsI_app, opAdd_int, opSub_int, opCmpI_int, opLt_int, opEq_int, tgName_app, tgNil_app, tgCons_app, tgTup_app, clr_nil', clr_cons', ofO_some, opIx_tup0, opIx_tup1, fLen_tup, fLen_lst, fTuple_lst, startD, isTy, List.map_cons, List.map_nil, List.length_cons, List.length_nil, List.cons_append, List.nil_append, List.replicate, Nat.reduceAdd, Nat.reduceSub, List.set_cons_zero, List.set_cons_succ, reduceIte, eq_self, Bool.false_eq_true, Bool.not_true, Bool.not_false, Option.bind_some, Bool.xor_false, Bool.xor_true, decide_true, decide_false, eq]
    rw [if_pos (Nat.le_add_left _ _)]
    simp only [List.take_succ_cons, List.take_zero, List.drop_succ_cons, List.drop_zero, Out.bind_ok, mBind_app, mRet_app, eVar_0, eVar_1, eVar_2, eVar_3, eVar_4, eVar_5, eVar_6, eVar_7, eVar_8, eVar_9, eVar_10, eK_app, eOp_app, asB_bl, eTest_app, tru_bl, eTru_app, eChain_app, bNot_app, bAnd_app, bOr_app, eNot_app, eAnd_app, eOr_app, eIf_app, eUn_app, lNil_app, lCons_app, eTup_app, eLst_app, eLstM_app, eCall_app, eSlice_app, asI_int, eMeth_app, sNext_app, sNever_app, sBrk_app, sCont_app, sSeq_app, sSet_app, sExpr_app, sRet_app, sRetN_app, sIf_app, sAsg_app, eRg1_app, eIsI_app, opAdd_int, opSub_int, opCmpI_int, opLt_int, opEq_int, tgName_app, tgNil_app, tgCons_app, tgTup_app, clr_nil', clr_cons', ofO_some, opIx_tup0, opIx_tup1, fLen_tup, fLen_lst, fTuple_lst, startD, isTy, List.map_cons, List.map_nil, List.length_cons, List.length_nil, List.cons_append, List.nil_append, List.replicate, Nat.reduceAdd, Nat.reduceSub, List.set_cons_zero, List.set_cons_succ, reduceIte, eq_self, Bool.false_eq_true, Bool.not_true, Bool.not_false, Option.bind_some, Bool.xor_false, Bool.xor_true, decide_true, decide_false]
  have a1 : At w s (.lst ((List.range n).map fun s => .tuple ((nb ts s).map nD))) h S.length fs q [some w, some s, some (.lst ((List.range n).map fun s => .tuple ((nb ts s).map nD))), some (.ref 0), some (.ref S.length), some (.int h), none, none] (S ++ [.lst (qD q)]) :=
    ⟨rfl, by rw [List.getElem?_append_left h0S]; exact s0, by simp, by omega⟩
  obtain ⟨f, S2, e2, σ2, rfl, a2⟩ := pushes (nb ts h) a1 hk (by omega) (by omega)
  refine ⟨.next σ2, S2, ?_, σ2, S.length, rfl, ?_⟩
  · simp only [qsteps_by_b4, sSeq_app, e1, Out.bind_ok, sFor_app]
    have e3 : iSeq (eOp opIx (eVar 2) (eVar 5)) [some w, some s, some (.lst ((List.range n).map fun s => .tuple ((nb ts s).map nD))), some (.ref 0), some (.ref S.length), some (.int h), none, none] (S ++ [.lst (qD q)]) = .ok ⟨(nb ts h).map fun (o : Nat) => D.int o, .no⟩ (S ++ [.lst (qD q)]) := by
      refine (iSeq_tup (xs := (nb ts h).map nD) ?_).trans (by rw [List.map_map]; rfl)
      simp only [Out.bind_ok, mBind_app, mRet_app, eVar_0, eVar_1, eVar_2, eVar_3, eVar_4, eVar_5, eVar_6, eVar_7, eVar_8, eVar_9, eVar_10, eK_app, eOp_app, asB_bl, eTest_app, tru_bl, eTru_app, eChain_app, bNot_app, bAnd_app, bOr_app, eNot_app, eAnd_app, eOr_app, eIf_app, eUn_app, lNil_app, lCons_app, eTup_app, eLst_app, eLstM_app, eCall_app, eSlice_app, asI_int, eMeth_app, sNext_app, sNever_app, sBrk_app, sCont_app, sSeq_app, sSet_app, sExpr_app, sRet_app, sRetN_app, sIf_app, sAsg_app, eRg1_app, eIsI_app, opAdd_int, opSub_int, opCmpI_int, opLt_int, opEq_int, tgName_app, tgNil_app, tgCons_app, tgTup_app, clr_nil', clr_cons', ofO_some, opIx_tup0, opIx_tup1, fLen_tup, fLen_lst, fTuple_lst, startD, isTy, List.map_cons, List.map_nil, List.length_cons, List.length_nil, List.cons_append, List.nil_append, List.replicate, Nat.reduceAdd, Nat.reduceSub, List.set_cons_zero, List.set_cons_succ, reduceIte, eq_self, Bool.false_eq_true, Bool.not_true, Bool.not_false, Option.bind_some, Bool.xor_false, Bool.xor_true, decide_true, decide_false]
      exact opIx_lstN (by rw [List.getElem?_map, List.getElem?_range hn]; rfl)
    rw [e3]
    simp only [Out.bind_ok, mBind_app, mRet_app, eVar_0, eVar_1, eVar_2, eVar_3, eVar_4, eVar_5, eVar_6, eVar_7, eVar_8, eVar_9, eVar_10, eK_app, eOp_app, asB_bl, eTest_app, tru_bl, eTru_app, eChain_app, bNot_app, bAnd_app, bOr_app, eNot_app, eAnd_app, eOr_app, eIf_app, eUn_app, lNil_app, lCons_app, eTup_app, eLst_app, eLstM_app, eCall_app, eSlice_app, asI_int, eMeth_app, sNext_app, sNever_app, sBrk_app, sCont_app, sSeq_app, sSet_app, sExpr_app, sRet_app, sRetN_app, sIf_app, sAsg_app, eRg1_app, eIsI_app, opAdd_int, opSub_int, opCmpI_int, opLt_int, opEq_int, tgName_app, tgNil_app, tgCons_app, tgTup_app, clr_nil', clr_cons', ofO_some, opIx_tup0, opIx_tup1, fLen_tup, fLen_lst, fTuple_lst, startD, isTy, List.map_cons, List.map_nil, List.length_cons, List.length_nil, List.cons_append, List.nil_append, List.replicate, Nat.reduceAdd, Nat.reduceSub, List.set_cons_zero, List.set_cons_succ, reduceIte, eq_self, Bool.false_eq_true, Bool.not_true, Bool.not_false, Option.bind_some, Bool.xor_false, Bool.xor_true, decide_true, decide_false]
    exact e2
  · obtain ⟨rfl, b0, br, _⟩ := a2
    simp only [Out.bind_ok, mBind_app, mRet_app, eVar_0, eVar_1, eVar_2, eVar_3, eVar_4, eVar_5, eVar_6, eVar_7, eVar_8, eVar_9, eVar_10, eK_app, eOp_app, asB_bl, eTest_app, tru_bl, eTru_app, eChain_app, bNot_app, bAnd_app, bOr_app, eNot_app, eAnd_app, eOr_app, eIf_app, eUn_app, lNil_app, lCons_app, eTup_app, eLst_app, eLstM_app, eCall_app, eSlice_app, asI_int, eMeth_app, sNext_app, sNever_app, sBrk_app, sCont_app, sSeq_app, sSet_app, sExpr_app, sRet_app, sRetN_app, sIf_app, sAsg_app, eRg1_app, eIsI_app, opAdd_int, opSub_int, opCmpI_int, opLt_int, opEq_int, tgName_app, tgNil_app, tgCons_app, tgTup_app, clr_nil', clr_cons', ofO_some, opIx_tup0, opIx_tup1, fLen_tup, fLen_lst, fTuple_lst, startD, isTy, List.map_cons, List.map_nil, List.length_cons, List.length_nil, List.cons_append, List.nil_append, List.replicate, Nat.reduceAdd, Nat.reduceSub, List.set_cons_zero, List.set_cons_succ, reduceIte, eq_self, Bool.false_eq_true, Bool.not_true, Bool.not_false, Option.bind_some, Bool.xor_false, Bool.xor_true, decide_true, decide_false]
    exact ⟨rfl, b0, br, by omega⟩
theorem dc_start {σ : Sl} {S : Sto} : ∀ (l : List Nat) (fs : List (Nat × Nat)), l.Nodup → (∀ v ∈ l, PG.look fs v = none) → fs.length + l.length ≤ 90000 → σ.length = 8 →
    dcGo .no (tgName 7) (mRet true) qsteps_by_k1 qsteps_by_v2 (l.map fun (v : Nat) => D.int v) (encK fs) σ S = .ok (encK (fs ++ l.map fun v => (v, 0))) S
  | [], fs, _, _, _, _ => by
    show dcGo .no (tgName 7) (mRet true) qsteps_by_k1 qsteps_by_v2 [] (encK fs) σ S = _
    unfold dcGo
    rw [if_pos (by exact trivial)]
    simp
  | v :: l, fs, nd, hf, hl, hσ => by
    have hv := hf v List.mem_cons_self
    rw [List.nodup_cons] at nd
    rw [List.length_cons] at hl
    have ih := dc_start (S := S) l (fs ++ [(v, 0)]) nd.2 (fun u hu => by
      have huv : ¬ u = v := fun z => nd.1 (by rw [← z]; exact hu)
      rw [PG.look_app hv, if_neg huv]
      exact hf u (List.mem_cons_of_mem _ hu)) (by rw [List.length_append, List.length_singleton]; omega) hσ
    show dcGo .no (tgName 7) (mRet true) qsteps_by_k1 qsteps_by_v2 (.int v :: l.map fun (v : Nat) => D.int v) (encK fs) σ S = _
    unfold dcGo
    rw [if_pos (by exact trivial)]
    have e1 : qsteps_by_k1 (σ.set 7 (some (.int v))) S = .ok (.int v) S := by
      unfold qsteps_by_k1
      rw [eVar_app, List.getElem?_set_self (by omega)]
    have hkey : keyD (.int (v : Int)) = some (.inl (v : Int)) := rfl
    simp only [tgName_app, mRet_app, Out.bindN_ok, if_true, e1, qsteps_by_v2, eK_app, hkey]
    rw [if_pos (by rw [List.length_map, sizeLine_eq]; omega)]
    have hp := putD_enc (k := 0) hv
    rw [show ((0 : Nat) : Int) = (0 : Int) from rfl] at hp
    rw [hp]
    unfold qsteps_by_v2 at ih
    rw [ih]
    simp
def optD : Option Nat → PyData
  | some d => .int d
  | none => .none
theorem adj_lt {n : Nat} {ts : List (Nat × Nat)} (w : GW n ts) {u v : Nat} (h : v ∈ nb ts u) : v < n := by
  unfold nb at h
  rw [List.mem_map] at h
  obtain ⟨p, hp, rfl⟩ := h
  rw [List.mem_filter] at hp
  have := w.tie p hp.1
  have h2 := hp.2
  simp only [Bool.or_eq_true, decide_eq_true_eq] at h2
  omega
abbrev adj (ts : List (Nat × Nat)) (u v : Nat) : Prop := v ∈ nb ts u
abbrev inL (l : List Nat) (v : Nat) : Prop := v ∈ l
theorem look_zero (l : List Nat) (v : Nat) : PG.look (l.map fun v => (v, 0)) v = if v ∈ l then some 0 else none := by
  induction l with
  | nil => simp [PG.look, List.lookup]
  | cons x r ih =>
    unfold PG.look at ih ⊢
    rw [List.map_cons, List.lookup_cons]
    by_cases h : v = x
    · subst h; simp
    · have e : (v == x) = false := by simpa using h
      rw [e]
      dsimp only
      rw [ih]
      simp [h]
theorem left_le (n : Nat) (fs : List (Nat × Nat)) : PG.left n fs ≤ n := by
  have := List.countP_le_length (p := fun v => (PG.look fs v).isNone) (l := List.range n)
  rwa [List.length_range] at this
abbrev nearD (n : Nat) (ts : List (Nat × Nat)) : D := .lst ((List.range n).map fun s => .tuple ((nb ts s).map nD))
abbrev zeros (l : List Nat) : List (Nat × Nat) := l.map fun v => (v, 0)
theorem mem_pushes {k u : Nat} : ∀ (ns : List Nat) (fs : List (Nat × Nat)) (q : List Nat), u ∈ (ns.foldl (PG.push k) (fs, q)).2 → u ∈ ns ∨ u ∈ q
  | [], fs, q, h => .inr h
  | o :: ns, fs, q, h => by
    rw [List.foldl_cons] at h
    rcases mem_pushes ns (PG.push k (fs, q) o).1 (PG.push k (fs, q) o).2 h with h | h
    · exact .inl (List.mem_cons_of_mem _ h)
    · unfold PG.push at h
      split at h
      · exact .inr h
      · rcases List.mem_append.mp h with h | h
        · exact .inr h
        · exact .inl (by rw [show u = o by simpa using h]; exact List.mem_cons_self)
theorem nb_len {ts : List (Nat × Nat)} (h : ts.length ≤ 1000) (s : Nat) : (nb ts s).length ≤ 1000 := by
  unfold nb
  rw [List.length_map]
  exact Nat.le_trans (List.length_filter_le _ _) h
theorem cond_ok {w s nr : D} {r : Nat} {fs : List (Nat × Nat)} {q : List Nat} {σ : Sl} {S : Sto} (wh : Wh w s nr r fs q σ S) : qsteps_by_c5 σ S = .ok (!q.isEmpty) S := by
  obtain ⟨rfl, _, sr, _⟩ := wh
  simp only [qsteps_by_c5, Out.bind_ok, mBind_app, mRet_app, eVar_0, eVar_1, eVar_2, eVar_3, eVar_4, eVar_5, eVar_6, eVar_7, eVar_8, eVar_9, eVar_10, eK_app, eOp_app, asB_bl, eTest_app, tru_bl, eTru_app, eChain_app, bNot_app, bAnd_app, bOr_app, eNot_app, eAnd_app, eOr_app, eIf_app, eUn_app, lNil_app, lCons_app, eTup_app, eLst_app, eLstM_app, eCall_app, eSlice_app, asI_int, eMeth_app, sNext_app, sNever_app, sBrk_app, sCont_app, sSeq_app, sSet_app, sExpr_app, sRet_app, sRetN_app, sIf_app, sAsg_app, eRg1_app, eIsI_app, opAdd_int, opSub_int, opCmpI_int, opLt_int, opEq_int, tgName_app, tgNil_app, tgCons_app, tgTup_app, clr_nil', clr_cons', ofO_some, opIx_tup0, opIx_tup1, fLen_tup, fLen_lst, fTuple_lst, startD, isTy, List.map_cons, List.map_nil, List.length_cons, List.length_nil, List.cons_append, List.nil_append, List.replicate, Nat.reduceAdd, Nat.reduceSub, List.set_cons_zero, List.set_cons_succ, reduceIte, eq_self, Bool.false_eq_true, Bool.not_true, Bool.not_false, Option.bind_some, Bool.xor_false, Bool.xor_true, decide_true, decide_false, mkLst, pdL_nil]
  rw [if_pos (Nat.zero_le _)]
  simp only [Out.bind_ok, mBind_app, mRet_app, eVar_0, eVar_1, eVar_2, eVar_3, eVar_4, eVar_5, eVar_6, eVar_7, eVar_8, eVar_9, eVar_10, eK_app, eOp_app, asB_bl, eTest_app, tru_bl, eTru_app, eChain_app, bNot_app, bAnd_app, bOr_app, eNot_app, eAnd_app, eOr_app, eIf_app, eUn_app, lNil_app, lCons_app, eTup_app, eLst_app, eLstM_app, eCall_app, eSlice_app, asI_int, eMeth_app, sNext_app, sNever_app, sBrk_app, sCont_app, sSeq_app, sSet_app, sExpr_app, sRet_app, sRetN_app, sIf_app, sAsg_app, eRg1_app, eIsI_app, opAdd_int, opSub_int, opCmpI_int, opLt_int, opEq_int, tgName_app, tgNil_app, tgCons_app, tgTup_app, clr_nil', clr_cons', ofO_some, opIx_tup0, opIx_tup1, fLen_tup, fLen_lst, fTuple_lst, startD, isTy, List.map_cons, List.map_nil, List.length_cons, List.length_nil, List.cons_append, List.nil_append, List.replicate, Nat.reduceAdd, Nat.reduceSub, List.set_cons_zero, List.set_cons_succ, reduceIte, eq_self, Bool.false_eq_true, Bool.not_true, Bool.not_false, Option.bind_some, Bool.xor_false, Bool.xor_true, decide_true, decide_false, neNil sr]
theorem loop_ok {n : Nat} {ts : List (Nat × Nat)} (w : GW n ts) {W sD : D} {l : List Nat} {fs0 : List (Nat × Nat)} {S0 : Sto} (hl : ∀ v ∈ l, v < n) (hz : l.length ≤ 12) (hf0 : fs0.length ≤ 12) (inv0 : PG.Inv (adj ts) (inL l) n fs0 l) {σ : Sl} (start : Wh W sD (nearD n ts) 1 fs0 l (clr [5, 6] σ) S0) :
    Sat (sWhile [5, 6] qsteps_by_c5 qsteps_by_b4 σ S0) fun f S' => ∃ fs r, f = .next [some W, some sD, some (nearD n ts), some (.ref 0), some (.ref r), none, none, none] ∧ S'[0]? = some (.dct (encK fs)) ∧ PG.Inv (adj ts) (inL l) n fs [] := by
  have hn12 := w.n12
  refine sWhile_sat (fun m σ S => ∃ fs q r, Wh W sD (nearD n ts) r fs q σ S ∧ PG.Inv (adj ts) (inL l) n fs q ∧ m = PG.left n fs + q.length ∧ m ≤ 24 ∧ fs.length + 1000 * m ≤ 24012 ∧ ∀ u ∈ q, u < n) ?_ (m := PG.left n fs0 + l.length) ?_
  · rintro m σ S ⟨fs, q, r, wh, inv, rfl, hm, hlen, hq⟩
    rw [cond_ok wh]
    refine .ok ?_
    cases q with
    | nil =>
      rw [if_neg (by simp)]
      obtain ⟨rfl, s0, _, _⟩ := wh
      exact ⟨fs, r, rfl, s0, inv⟩
    | cons h q =>
      rw [if_pos (by simp)]
      rw [List.length_cons] at hm hlen
      obtain ⟨k, hk, inv2, hlt⟩ := inv.turn (ns := nb ts h) (fun o => Iff.rfl) fun u v => adj_lt w
      have hnb := nb_len w.len h
      obtain ⟨f, S', e, σ2, r2, rfl, wh2⟩ := turn_ok (hq h List.mem_cons_self) w.len wh hk (by omega) (by omega)
      refine ⟨_, S', e, ?_⟩
      have hp := pushes_len k (nb ts h) fs q
      rw [List.length_cons] at hlt
      refine ⟨_, ?_, _, _, r2, wh2, inv2, rfl, by omega, by omega, fun u hu => ?_⟩
      · rw [List.length_cons]; exact hlt
      · rcases mem_pushes _ _ _ hu with h' | h'
        · exact adj_lt w h'
        · exact hq u (List.mem_cons_of_mem _ h')
  · have h1 := left_le n fs0
    exact ⟨fs0, l, 1, start, inv0, rfl, by omega, by omega, hl⟩
theorem dc_ok {W nr : D} {l : List Nat} (nd : l.Nodup) (hz : l.length ≤ 12) : eDc [7] (iSeq (eVar 1)) (tgName 7) (mRet true) qsteps_by_k1 qsteps_by_v2 [some W, some (.tup (l.map nD)), some nr, none, none, none, none, none] [] = .ok (.ref 0) [.dct (encK (zeros l))] := by
  have hs : iSeq (eVar 1) [some W, some (.tup (l.map nD)), some nr, none, none, none, none, none] [] = .ok ⟨l.map fun (v : Nat) => D.int v, .no⟩ [] := (iSeq_tup (xs := l.map nD) (by simp only [Out.bind_ok, mBind_app, mRet_app, eVar_0, eVar_1, eVar_2, eVar_3, eVar_4, eVar_5, eVar_6, eVar_7, eVar_8, eVar_9, eVar_10, eK_app, eOp_app, asB_bl, eTest_app, tru_bl, eTru_app, eChain_app, bNot_app, bAnd_app, bOr_app, eNot_app, eAnd_app, eOr_app, eIf_app, eUn_app, lNil_app, lCons_app, eTup_app, eLst_app, eLstM_app, eCall_app, eSlice_app, asI_int, eMeth_app, sNext_app, sNever_app, sBrk_app, sCont_app, sSeq_app, sSet_app, sExpr_app, sRet_app, sRetN_app, sIf_app, sAsg_app, eRg1_app, eIsI_app, opAdd_int, opSub_int, opCmpI_int, opLt_int, opEq_int, tgName_app, tgNil_app, tgCons_app, tgTup_app, clr_nil', clr_cons', ofO_some, opIx_tup0, opIx_tup1, fLen_tup, fLen_lst, fTuple_lst, startD, isTy, List.map_cons, List.map_nil, List.length_cons, List.length_nil, List.cons_append, List.nil_append, List.replicate, Nat.reduceAdd, Nat.reduceSub, List.set_cons_zero, List.set_cons_succ, reduceIte, eq_self, Bool.false_eq_true, Bool.not_true, Bool.not_false, Option.bind_some, Bool.xor_false, Bool.xor_true, decide_true, decide_false])).trans (by rw [List.map_map]; rfl)
  have := dc_start (σ := clr [7] [some W, some (.tup (l.map nD)), some nr, none, none, none, none, none]) (S := []) l [] nd (fun v _ => rfl) (by rw [List.length_nil]; omega) rfl
  unfold eDc
  rw [mBind_app]
  unfold dcAll
  rw [hs]
  simp only [Out.bind_ok]
  have e0 : ([] : List (Key × D)) = encK [] := rfl
  rw [e0, this]
  rfl
theorem lm_ok {l : List Nat} {kvs : List (Key × D)} : fListM [.tup (l.map nD)] [.dct kvs] = .ok (.ref 1) [.dct kvs, .lst (qD l)] := by
  show Out.ok (D.ref 1) ([Ob.dct kvs] ++ [Ob.lst ((l.map nD).map D.pd)]) = _
  rw [← qD_pd]; rfl
theorem out_ok {n : Nat} {ts : List (Nat × Nat)} (hn : n ≤ 12) {sD nr r : D} {fs : List (Nat × Nat)} {S' : Sto} (s0 : S'[0]? = some (.dct (encK fs))) :
    eLc [7] (iRange1 (lCons (eOp opIx (eVar 0) (eK (.int 0))) lNil)) (tgName 7) (mRet true) qsteps_by_e6 [some (.pd (webD n ts)), some sD, some nr, some (.ref 0), some r, none, none, none] S' = .ok (.lst ((List.range n).map fun v => optD (PG.look fs v))) S' := by
  refine eLc_all (gu := .no) (List.range n) (fun (i : Nat) => D.int i) _ (iRange1_nat (n := n) (by simp only [Out.bind_ok, mBind_app, mRet_app, eVar_0, eVar_1, eVar_2, eVar_3, eVar_4, eVar_5, eVar_6, eVar_7, eVar_8, eVar_9, eVar_10, eK_app, eOp_app, asB_bl, eTest_app, tru_bl, eTru_app, eChain_app, bNot_app, bAnd_app, bOr_app, eNot_app, eAnd_app, eOr_app, eIf_app, eUn_app, lNil_app, lCons_app, eTup_app, eLst_app, eLstM_app, eCall_app, eSlice_app, asI_int, eMeth_app, sNext_app, sNever_app, sBrk_app, sCont_app, sSeq_app, sSet_app, sExpr_app, sRet_app, sRetN_app, sIf_app, sAsg_app, eRg1_app, eIsI_app, opAdd_int, opSub_int, opCmpI_int, opLt_int, opEq_int, tgName_app, tgNil_app, tgCons_app, tgTup_app, clr_nil', clr_cons', ofO_some, opIx_tup0, opIx_tup1, fLen_tup, fLen_lst, fTuple_lst, startD, isTy, List.map_cons, List.map_nil, List.length_cons, List.length_nil, List.cons_append, List.nil_append, List.replicate, Nat.reduceAdd, Nat.reduceSub, List.set_cons_zero, List.set_cons_succ, reduceIte, eq_self, Bool.false_eq_true, Bool.not_true, Bool.not_false, Option.bind_some, Bool.xor_false, Bool.xor_true, decide_true, decide_false]) (by omega)) (by exact trivial) (fun v hv => ⟨_, rfl, ?_⟩) (le_size (by rw [List.length_range]; omega))
  have hkey : keyD (.int (v : Int)) = some (.inl (v : Int)) := rfl
  simp only [qsteps_by_e6, Out.bind_ok, mBind_app, mRet_app, eVar_0, eVar_1, eVar_2, eVar_3, eVar_4, eVar_5, eVar_6, eVar_7, eVar_8, eVar_9, eVar_10, eK_app, eOp_app, asB_bl, eTest_app, tru_bl, eTru_app, eChain_app, bNot_app, bAnd_app, bOr_app, eNot_app, eAnd_app, eOr_app, eIf_app, eUn_app, lNil_app, lCons_app, eTup_app, eLst_app, eLstM_app, eCall_app, eSlice_app, asI_int, eMeth_app, sNext_app, sNever_app, sBrk_app, sCont_app, sSeq_app, sSet_app, sExpr_app, sRet_app, sRetN_app, sIf_app, sAsg_app, eRg1_app, eIsI_app, opAdd_int, opSub_int, opCmpI_int, opLt_int, opEq_int, tgName_app, tgNil_app, tgCons_app, tgTup_app, clr_nil', clr_cons', ofO_some, opIx_tup0, opIx_tup1, fLen_tup, fLen_lst, fTuple_lst, startD, isTy, List.map_cons, List.map_nil, List.length_cons, List.length_nil, List.cons_append, List.nil_append, List.replicate, Nat.reduceAdd, Nat.reduceSub, List.set_cons_zero, List.set_cons_succ, reduceIte, eq_self, Bool.false_eq_true, Bool.not_true, Bool.not_false, Option.bind_some, Bool.xor_false, Bool.xor_true, decide_true, decide_false, eDGet1, dctAt_0 s0, Option.isSome_some, hkey, valD_enc]
  cases PG.look fs v <;> rfl
theorem steps_by_ok {n : Nat} {ts : List (Nat × Nat)} (w : GW n ts) {l : List Nat} (nd : l.Nodup) (hl : ∀ v ∈ l, v < n) (hz : l.length ≤ 12) :
    ∃ ds : Nat → Option Nat, f_steps_by [.pd (webD n ts), .tup (l.map nD)] [] = .ok (.tup ((List.range n).map fun v => optD (ds v))) [] ∧ (∀ v d, ds v = some d ↔ PG.IsDist (adj ts) (inL l) v d) ∧ ∀ v, ds v = none → ∀ k, ¬ PG.ball (adj ts) (inL l) k v := by
  have hn12 := w.n12
  have inv0 : PG.Inv (adj ts) (inL l) n (zeros l) l := PG.Inv.start (fun v => Iff.rfl) (fun v => look_zero l v)
  obtain ⟨f, S', eW, fs, r, rfl, s0, inv⟩ := loop_ok w (W := .pd (webD n ts)) (sD := .tup (l.map nD)) (S0 := [.dct (encK (zeros l)), .lst (qD l)]) (σ := [some (.pd (webD n ts)), some (.tup (l.map nD)), some (nearD n ts), some (.ref 0), some (.ref 1), none, none, none]) hl hz (by rw [List.length_map]; exact hz) inv0 ⟨rfl, rfl, rfl, by decide⟩
  refine ⟨fun v => PG.look fs v, ?_, fun v d => inv.done v d, fun v hv k => inv.noway hv k⟩
  refine runF_pure (S' := S') ?_
  have h1 := fun σ S => callF_pd (n := 1) (near_by_ok (n := n) (ts := ts) w.len (by omega)) rfl rfl rfl rfl σ S
  have e3 := dc_ok (W := .pd (webD n ts)) (nr := nearD n ts) nd hz
  have e4 := lm_ok (l := l) (kvs := encK (zeros l))
  have e5 := out_ok (ts := ts) hn12 (sD := .tup (l.map nD)) (nr := nearD n ts) (r := .ref r) s0
  show m_steps_by [some (.pd (webD n ts)), some (.tup (l.map nD)), none, none, none, none, none, none] [] = _
  unfold m_steps_by
  refine (sSeq_next (sSet_ok (call1_ok (d := .pd (webD n ts)) rfl (h1 _ _)))).trans ?_
  refine (sSeq_next (sSet_ok e3)).trans ?_
  refine (sSeq_next (sSet_ok (eCall1_ok (d := .tup (l.map nD)) rfl e4))).trans ?_
  refine (sSeq_next eW).trans ?_
  exact sRet_ok (eCall1_ok e5 (fTuple_lst _))
/-- the fewest steps, none where no way leads -/
noncomputable def dst (ts : List (Nat × Nat)) (l : List Nat) (v : Nat) : Option Nat := by
  classical exact if h : ∃ d, PG.IsDist (adj ts) (inL l) v d then some (Classical.choose h) else none
theorem dst_some {ts : List (Nat × Nat)} {l : List Nat} {v d : Nat} : dst ts l v = some d ↔ PG.IsDist (adj ts) (inL l) v d := by
  unfold dst
  split
  · rename_i h
    refine ⟨fun e => ?_, fun e => ?_⟩
    · cases e; exact Classical.choose_spec h
    · rw [(Classical.choose_spec h).uniq e]
  · rename_i h
    exact ⟨fun e => (by cases e), fun e => absurd ⟨d, e⟩ h⟩
theorem dst_none {ts : List (Nat × Nat)} {l : List Nat} {v : Nat} : dst ts l v = none ↔ ∀ k, ¬ PG.ball (adj ts) (inL l) k v := by
  refine ⟨fun e k hb => ?_, fun h => ?_⟩
  · obtain ⟨d, hd⟩ := PG.exists_dist hb
    rw [dst_some.mpr hd] at e; cases e
  · cases e : dst ts l v with
    | none => rfl
    | some d => exact absurd (dst_some.mp e).1 (h d)
theorem steps_by_dst {n : Nat} {ts : List (Nat × Nat)} (w : GW n ts) {l : List Nat} (nd : l.Nodup) (hl : ∀ v ∈ l, v < n) (hz : l.length ≤ 12) :
    f_steps_by [.pd (webD n ts), .tup (l.map nD)] [] = .ok (.tup ((List.range n).map fun v => optD (dst ts l v))) [] := by
  obtain ⟨ds, e, h1, h2⟩ := steps_by_ok w nd hl hz
  have : ds = dst ts l := by
    funext v
    cases q : ds v with
    | none => exact (dst_none.mpr (h2 v q)).symm
    | some d => exact (dst_some.mpr ((h1 v d).mp q)).symm
  rw [← this]; exact e
theorem neighbours_ok {n : Nat} {ts : List (Nat × Nat)} (w : GW n ts) {s : Nat} (hs : s < n) : f_neighbours [.pd (webD n ts), .int s] [] = .ok (.tup ((nb ts s).map nD)) [] := by
  refine runF_pure (S' := []) ?_
  have h1 := fun σ S => callF_pd (n := 1) (need_web_ok w) rfl rfl rfl rfl σ S
  have h2 := fun σ S => callF_pd (n := 2) (need_seat_ok (ts := ts) hs) rfl rfl rfl rfl σ S
  have h3 := fun σ S => callF_pd (n := 2) (neighbours_by_ok (n := n) s w.len) rfl rfl rfl rfl σ S
  simp only [m_neighbours, Out.bind_ok, mBind_app, mRet_app, eVar_0, eVar_1, eVar_2, eVar_3, eVar_4, eVar_5, eVar_6, eVar_7, eVar_8, eVar_9, eVar_10, eK_app, eOp_app, asB_bl, eTest_app, tru_bl, eTru_app, eChain_app, bNot_app, bAnd_app, bOr_app, eNot_app, eAnd_app, eOr_app, eIf_app, eUn_app, lNil_app, lCons_app, eTup_app, eLst_app, eLstM_app, eCall_app, eSlice_app, asI_int, eMeth_app, sNext_app, sNever_app, sBrk_app, sCont_app, sSeq_app, sSet_app, sExpr_app, sRet_app, sRetN_app, sIf_app, sAsg_app, eRg1_app, eIsI_app, opAdd_int, opSub_int, opCmpI_int, opLt_int, opEq_int, tgName_app, tgNil_app, tgCons_app, tgTup_app, clr_nil', clr_cons', ofO_some, opIx_tup0, opIx_tup1, fLen_tup, fLen_lst, fTuple_lst, startD, isTy, List.map_cons, List.map_nil, List.length_cons, List.length_nil, List.cons_append, List.nil_append, List.replicate, Nat.reduceAdd, Nat.reduceSub, List.set_cons_zero, List.set_cons_succ, reduceIte, eq_self, Bool.false_eq_true, Bool.not_true, Bool.not_false, Option.bind_some, Bool.xor_false, Bool.xor_true, decide_true, decide_false, h1, h2, h3]
end K08
end
section
namespace K08
open PySem PySem.Spec PyProof.Rows L2 DL
theorem one_ok {n s : Nat} (hs : s < n) : [s].Nodup ∧ (∀ v ∈ [s], v < n) ∧ [s].length ≤ 12 := ⟨by simp, fun v hv => by rw [show v = s by simpa using hv]; exact hs, by simp⟩
theorem steps_ok {n : Nat} {ts : List (Nat × Nat)} (w : GW n ts) {s o : Nat} (hs : s < n) (ho : o < n) : f_steps [.pd (webD n ts), .int s, .int o] [] = .ok (.pd (optD (dst ts [s] o))) [] := by
  refine runF_pure (S' := []) ?_
  have h1 := fun σ S => callF_pd (n := 1) (need_web_ok w) rfl rfl rfl rfl σ S
  have h2 := fun σ S => callF_pd (n := 2) (need_seat_ok (ts := ts) hs) rfl rfl rfl rfl σ S
  have h2' := fun σ S => callF_pd (n := 2) (need_seat_ok (ts := ts) ho) rfl rfl rfl rfl σ S
  obtain ⟨a, b, c⟩ := one_ok hs
  have h3 := fun σ S => callF_pd (n := 2) (steps_by_dst w a b c) rfl rfl rfl rfl σ S
  have h4 := fun S => opIx_tupN (S := S) (xs := (List.range n).map fun v => optD (dst ts [s] v)) (i := o) (by rw [List.getElem?_map, List.getElem?_range ho]; rfl)
  show m_steps [some (.pd (webD n ts)), some (.int s), some (.int o)] [] = _
  unfold m_steps
  refine (sSeq_next (sExpr_ok (call1_ok (d := .pd (webD n ts)) rfl (h1 _ _)))).trans ?_
  refine (sSeq_next (sExpr_ok (call2_ok (d := .pd (webD n ts)) (e := .int s) rfl rfl (h2 _ _)))).trans ?_
  refine (sSeq_next (sExpr_ok (call2_ok (d := .pd (webD n ts)) (e := .int o) rfl rfl (h2' _ _)))).trans ?_
  exact sRet_ok (eOp_ok (e := .int o) (call2_ok (d := .pd (webD n ts)) (e := .tup [nD s]) rfl (eTup1_ok (x := nD s) rfl) (h3 _ _)) rfl (h4 _))
theorem steps_to_ok {n : Nat} {ts : List (Nat × Nat)} (w : GW n ts) {l : List Nat} (hl : ∀ v ∈ l, v < n) (hr : l.Pairwise (· < ·)) (hz : l.length ≤ 12) :
    f_steps_to [.pd (webD n ts), .tup (l.map nD)] [] = .ok (.tup ((List.range n).map fun v => optD (dst ts l v))) [] := by
  refine runF_pure (S' := []) ?_
  have h1 := fun σ S => callF_pd (n := 1) (need_web_ok w) rfl rfl rfl rfl σ S
  have h2 := fun σ S => callF_pd (n := 2) (need_seats_ok (ts := ts) hl hr (by omega)) rfl rfl rfl rfl σ S
  have h3 := fun σ S => callF_pd (n := 2) (steps_by_dst w (hr.imp fun h => Nat.ne_of_lt h) hl hz) rfl rfl rfl rfl σ S
  show m_steps_to [some (.pd (webD n ts)), some (.tup (l.map nD))] [] = _
  unfold m_steps_to
  refine (sSeq_next (sExpr_ok (call1_ok (d := .pd (webD n ts)) rfl (h1 _ _)))).trans ?_
  refine (sSeq_next (sExpr_ok (call2_ok (d := .pd (webD n ts)) (e := .tup (l.map nD)) rfl rfl (h2 _ _)))).trans ?_
  exact sRet_ok (call2_ok (d := .pd (webD n ts)) (e := .tup (l.map nD)) rfl rfl (h3 _ _))
def near (o : Option Nat) (far : Int) : Bool := match o with
  | some d => decide ((d : Int) ≤ far)
  | none => false
theorem within_lc {n : Nat} {ts : List (Nat × Nat)} (hn12 : n ≤ 12) {s : D} {far : Int} (f : Nat → Option Nat) :
    eLc [4] (iRange1 (lCons (eOp opIx (eVar 0) (eK (.int 0))) lNil)) (tgName 4) qwithin_t1 qwithin_e2 [some (.pd (webD n ts)), some s, some (.int far), some (.tup ((List.range n).map fun v => optD (f v))), none] [] =
      .ok (.lst (((List.range n).filter fun o => near (f o) far).map nD)) [] := by
  refine eLc_map (gu := .no) (List.range n) (fun (i : Nat) => D.int i) _ nD (iRange1_nat (n := n) (by simp only [Out.bind_ok, mBind_app, mRet_app, eVar_0, eVar_1, eVar_2, eVar_3, eVar_4, eVar_5, eVar_6, eVar_7, eVar_8, eVar_9, eVar_10, eK_app, eOp_app, asB_bl, eTest_app, tru_bl, eTru_app, eChain_app, bNot_app, bAnd_app, bOr_app, eNot_app, eAnd_app, eOr_app, eIf_app, eUn_app, lNil_app, lCons_app, eTup_app, eLst_app, eLstM_app, eCall_app, eSlice_app, asI_int, eMeth_app, sNext_app, sNever_app, sBrk_app, sCont_app, sSeq_app, sSet_app, sExpr_app, sRet_app, sRetN_app, sIf_app, sAsg_app, eRg1_app, eIsI_app, opAdd_int, opSub_int, opCmpI_int, opLt_int, opEq_int, tgName_app, tgNil_app, tgCons_app, tgTup_app, clr_nil', clr_cons', ofO_some, opIx_tup0, opIx_tup1, fLen_tup, fLen_lst, fTuple_lst, startD, isTy, List.map_cons, List.map_nil, List.length_cons, List.length_nil, List.cons_append, List.nil_append, List.replicate, Nat.reduceAdd, Nat.reduceSub, List.set_cons_zero, List.set_cons_succ, reduceIte, eq_self, Bool.false_eq_true, Bool.not_true, Bool.not_false, Option.bind_some, Bool.xor_false, Bool.xor_true, decide_true, decide_false]) (by omega)) (by exact trivial) (fun o ho => ⟨_, rfl, ?_, fun _ => ?_⟩) (le_size (by rw [List.length_range]; omega))
  · have h4 := fun S => opIx_tupN (S := S) (xs := (List.range n).map fun v => optD (f v)) (i := o) (by rw [List.getElem?_map, List.getElem?_range (List.mem_range.mp ho)]; rfl)
    simp only [qwithin_t1, Out.bind_ok, mBind_app, mRet_app, eVar_0, eVar_1, eVar_2, eVar_3, eVar_4, eVar_5, eVar_6, eVar_7, eVar_8, eVar_9, eVar_10, eK_app, eOp_app, asB_bl, eTest_app, tru_bl, eTru_app, eChain_app, bNot_app, bAnd_app, bOr_app, eNot_app, eAnd_app, eOr_app, eIf_app, eUn_app, lNil_app, lCons_app, eTup_app, eLst_app, eLstM_app, eCall_app, eSlice_app, asI_int, eMeth_app, sNext_app, sNever_app, sBrk_app, sCont_app, sSeq_app, sSet_app, sExpr_app, sRet_app, sRetN_app, sIf_app, sAsg_app, eRg1_app, eIsI_app, opAdd_int, opSub_int, opCmpI_int, opLt_int, opEq_int, tgName_app, tgNil_app, tgCons_app, tgTup_app, clr_nil', clr_cons', ofO_some, opIx_tup0, opIx_tup1, fLen_tup, fLen_lst, fTuple_lst, startD, isTy, List.map_cons, List.map_nil, List.length_cons, List.length_nil, List.cons_append, List.nil_append, List.replicate, Nat.reduceAdd, Nat.reduceSub, List.set_cons_zero, List.set_cons_succ, reduceIte, eq_self, Bool.false_eq_true, Bool.not_true, Bool.not_false, Option.bind_some, Bool.xor_false, Bool.xor_true, decide_true, decide_false, h4]
    cases q : f o with
    | none => rfl
    | some d => simp only [optD, opIs, near, Out.bind_ok, mBind_app, mRet_app, eVar_0, eVar_1, eVar_2, eVar_3, eVar_4, eVar_5, eVar_6, eVar_7, eVar_8, eVar_9, eVar_10, eK_app, eOp_app, asB_bl, eTest_app, tru_bl, eTru_app, eChain_app, bNot_app, bAnd_app, bOr_app, eNot_app, eAnd_app, eOr_app, eIf_app, eUn_app, lNil_app, lCons_app, eTup_app, eLst_app, eLstM_app, eCall_app, eSlice_app, asI_int, eMeth_app, sNext_app, sNever_app, sBrk_app, sCont_app, sSeq_app, sSet_app, sExpr_app, sRet_app, sRetN_app, sIf_app, sAsg_app, eRg1_app, eIsI_app, opAdd_int, opSub_int, opCmpI_int, opLt_int, opEq_int, tgName_app, tgNil_app, tgCons_app, tgTup_app, clr_nil', clr_cons', ofO_some, opIx_tup0, opIx_tup1, fLen_tup, fLen_lst, fTuple_lst, startD, isTy, List.map_cons, List.map_nil, List.length_cons, List.length_nil, List.cons_append, List.nil_append, List.replicate, Nat.reduceAdd, Nat.reduceSub, List.set_cons_zero, List.set_cons_succ, reduceIte, eq_self, Bool.false_eq_true, Bool.not_true, Bool.not_false, Option.bind_some, Bool.xor_false, Bool.xor_true, decide_true, decide_false]
  · simp only [qwithin_e2, Out.bind_ok, mBind_app, mRet_app, eVar_0, eVar_1, eVar_2, eVar_3, eVar_4, eVar_5, eVar_6, eVar_7, eVar_8, eVar_9, eVar_10, eK_app, eOp_app, asB_bl, eTest_app, tru_bl, eTru_app, eChain_app, bNot_app, bAnd_app, bOr_app, eNot_app, eAnd_app, eOr_app, eIf_app, eUn_app, lNil_app, lCons_app, eTup_app, eLst_app, eLstM_app, eCall_app, eSlice_app, asI_int, eMeth_app, sNext_app, sNever_app, sBrk_app, sCont_app, sSeq_app, sSet_app, sExpr_app, sRet_app, sRetN_app, sIf_app, sAsg_app, eRg1_app, eIsI_app, opAdd_int, opSub_int, opCmpI_int, opLt_int, opEq_int, tgName_app, tgNil_app, tgCons_app, tgTup_app, clr_nil', clr_cons', ofO_some, opIx_tup0, opIx_tup1, fLen_tup, fLen_lst, fTuple_lst, startD, isTy, List.map_cons, List.map_nil, List.length_cons, List.length_nil, List.cons_append, List.nil_append, List.replicate, Nat.reduceAdd, Nat.reduceSub, List.set_cons_zero, List.set_cons_succ, reduceIte, eq_self, Bool.false_eq_true, Bool.not_true, Bool.not_false, Option.bind_some, Bool.xor_false, Bool.xor_true, decide_true, decide_false]
theorem within_ok {n : Nat} {ts : List (Nat × Nat)} (w : GW n ts) {s : Nat} (hs : s < n) {far : Int} (hf : 0 ≤ far) : f_within [.pd (webD n ts), .int s, .int far] [] = .ok (.tup (((List.range n).filter fun o => near (dst ts [s] o) far).map nD)) [] := by
  refine runF_pure (S' := []) ?_
  have h1 := fun σ S => callF_pd (n := 1) (need_web_ok w) rfl rfl rfl rfl σ S
  have h2 := fun σ S => callF_pd (n := 2) (need_seat_ok (ts := ts) hs) rfl rfl rfl rfl σ S
  have h0 := fun σ S => callF_pd (n := 1) (is_whole_int far) rfl rfl rfl rfl σ S
  obtain ⟨a, b, c⟩ := one_ok hs
  have h3 := fun σ S => callF_pd (n := 2) (steps_by_dst w a b c) rfl rfl rfl rfl σ S
  have hlt : decide (far < 0) = false := decide_eq_false (by omega)
  have e2 : (sIf (bOr (bNot (eTru (mBind (lCons (eVar 2) lNil) (callF 1 f_is_whole)))) (eTest (eOp opLt (eVar 2) (eK (.int 0))))) sNever sNext) [some (.pd (webD n ts)), some (.int s), some (.int far), none, none] [] = .ok (.next [some (.pd (webD n ts)), some (.int s), some (.int far), none, none]) [] := by
    simp only [Out.bind_ok, mBind_app, mRet_app, eVar_0, eVar_1, eVar_2, eVar_3, eVar_4, eVar_5, eVar_6, eVar_7, eVar_8, eVar_9, eVar_10, eK_app, eOp_app, asB_bl, eTest_app, tru_bl, eTru_app, eChain_app, bNot_app, bAnd_app, bOr_app, eNot_app, eAnd_app, eOr_app, eIf_app, eUn_app, lNil_app, lCons_app, eTup_app, eLst_app, eLstM_app, eCall_app, eSlice_app, asI_int, eMeth_app, sNext_app, sNever_app, sBrk_app, sCont_app, sSeq_app, sSet_app, sExpr_app, sRet_app, sRetN_app, sIf_app, sAsg_app, eRg1_app, eIsI_app, opAdd_int, opSub_int, opCmpI_int, opLt_int, opEq_int, tgName_app, tgNil_app, tgCons_app, tgTup_app, clr_nil', clr_cons', ofO_some, opIx_tup0, opIx_tup1, fLen_tup, fLen_lst, fTuple_lst, startD, isTy, List.map_cons, List.map_nil, List.length_cons, List.length_nil, List.cons_append, List.nil_append, List.replicate, Nat.reduceAdd, Nat.reduceSub, List.set_cons_zero, List.set_cons_succ, reduceIte, eq_self, Bool.false_eq_true, Bool.not_true, Bool.not_false, Option.bind_some, Bool.xor_false, Bool.xor_true, decide_true, decide_false, h0, hlt]
  show m_within [some (.pd (webD n ts)), some (.int s), some (.int far), none, none] [] = _
  unfold m_within
  refine (sSeq_next (sExpr_ok (call1_ok (d := .pd (webD n ts)) rfl (h1 _ _)))).trans ?_
  refine (sSeq_next (sExpr_ok (call2_ok (d := .pd (webD n ts)) (e := .int s) rfl rfl (h2 _ _)))).trans ?_
  refine (sSeq_next e2).trans ?_
  refine (sSeq_next (sSet_ok (call2_ok (d := .pd (webD n ts)) (e := .tup [nD s]) rfl (eTup1_ok (x := nD s) rfl) (h3 _ _)))).trans ?_
  exact sRet_ok (eCall1_ok (within_lc w.n12 (s := .int s) (far := far) (dst ts [s])) (fTuple_lst _))
end K08
end
section
namespace K08
open PySem PySem.Spec PyProof.Rows L2 DL
/-! ### what is drawn -/
abbrev poolOb (a b c : Int) : Ob := .lst [.int a, .int b, .int c]
def IsPool (ob : Ob) : Prop := ∃ a b c : Int, 0 ≤ a ∧ 0 ≤ b ∧ 0 ≤ c ∧ ob = poolOb a b c
theorem IsPool.pd {ob : Ob} (h : IsPool ob) : pdOb ob = true := by
  obtain ⟨a, b, c, _, _, _, rfl⟩ := h
  rfl
theorem opMod_pos {i j : Int} (h : 0 < j) (S : Sto) : opMod (.pd (.int i)) (.pd (.int j)) S = .ok (.int (i % j)) S := by
  unfold opMod; dsimp only; rw [if_pos h]
theorem opDiv_pos {i j : Int} (h : 0 < j) (h2 : j < 1073741824) (S : Sto) : opDiv (.pd (.int i)) (.pd (.int j)) S = .ok (.int (i / j)) S := by
  unfold opDiv; dsimp only; rw [if_pos ⟨h, h2⟩]
theorem opMul_l {i j : Int} (h : i.natAbs < 2 ^ 64) (S : Sto) : opMul2 (.pd (.int i)) (.pd (.int j)) S = .ok (.int (i * j)) S := by
  show opMul (.pd (.int i)) (.pd (.int j)) S = _
  unfold opMul; dsimp only; rw [if_pos (.inl h)]
theorem opMul_r {i j : Int} (h : j.natAbs < 2 ^ 64) (S : Sto) : opMul2 (.pd (.int i)) (.pd (.int j)) S = .ok (.int (i * j)) S := by
  show opMul (.pd (.int i)) (.pd (.int j)) S = _
  unfold opMul; dsimp only; rw [if_pos (.inr h)]
theorem pool0 (a b c : Int) : opIx (.ref 0) (.int 0) [poolOb a b c] = .ok (.int a) [poolOb a b c] := by rw [opIx_ref rfl]; simp
theorem pool1 (a b c : Int) : opIx (.ref 0) (.int 1) [poolOb a b c] = .ok (.int b) [poolOb a b c] := by rw [opIx_ref rfl]; simp
theorem pool2 (a b c : Int) : opIx (.ref 0) (.int 2) [poolOb a b c] = .ok (.int c) [poolOb a b c] := by rw [opIx_ref rfl]; simp
theorem put0 (a b c x : Int) : setIx [poolOb a b c] (.ref 0) (.int 0) (.int x) = some [poolOb x b c] := rfl
theorem put2 (a b c x : Int) : setIx [poolOb a b c] (.ref 0) (.int 2) (.int x) = some [poolOb a b x] := rfl
theorem mod_bound {i j : Int} (h : 0 < j) : 0 ≤ i % j ∧ i % j < j := ⟨Int.emod_nonneg _ (by omega), Int.emod_lt_of_pos _ h⟩
theorem take_body {a b c : Int} (ha : 0 ≤ a) (hb : 0 ≤ b) (hc : 0 ≤ c) {many : Int} (h1 : 1 ≤ many) (h2 : many ≤ 1000000) : ∃ (x : Int) (ob : Ob) (S' : Sto), 0 ≤ x ∧ x < many ∧ IsPool ob ∧ S' = [ob] ∧ m__law_take [some (.ref 0), some (.int many), none, none, none] [poolOb a b c] = .ok (.ret (.int x)) S' := by
  have hm : 0 < many := by omega
  by_cases h : 0 < a
  · obtain ⟨m1, m2⟩ := mod_bound (i := a) hm
    refine ⟨a % many, poolOb (a / many) b c, _, m1, m2, ⟨_, _, _, Int.ediv_nonneg ha (by omega), hb, hc, rfl⟩, rfl, ?_⟩
    simp only [m__law_take, Out.bind_ok, mBind_app, mRet_app, eVar_0, eVar_1, eVar_2, eVar_3, eVar_4, eVar_5, eVar_6, eVar_7, eVar_8, eVar_9, eVar_10, eK_app, eOp_app, asB_bl, eTest_app, tru_bl, eTru_app, eChain_app, bNot_app, bAnd_app, bOr_app, eNot_app, eAnd_app, eOr_app, eIf_app, eUn_app, lNil_app, lCons_app, eTup_app, eLst_app, eLstM_app, eCall_app, eSlice_app, asI_int, eMeth_app, sNext_app, sNever_app, sBrk_app, sCont_app, sSeq_app, sSet_app, sExpr_app, sRet_app, sRetN_app, sIf_app, sAsg_app, eRg1_app, eIsI_app, opAdd_int, opSub_int, opCmpI_int, opLt_int, opEq_int, tgName_app, tgNil_app, tgCons_app, tgTup_app, clr_nil', clr_cons', ofO_some, opIx_tup0, opIx_tup1, fLen_tup, fLen_lst, fTuple_lst, startD, isTy, List.map_cons, List.map_nil, List.length_cons, List.length_nil, List.cons_append, List.nil_append, List.replicate, Nat.reduceAdd, Nat.reduceSub, List.set_cons_zero, List.set_cons_succ, reduceIte, eq_self, Bool.false_eq_true, Bool.not_true, Bool.not_false, Option.bind_some, Bool.xor_false, Bool.xor_true, decide_true, decide_false, pool0, h, opMod_pos hm, sSetIx, opDiv_pos hm (show many < 1073741824 by omega), put0]
  · have hd : decide (0 < a) = false := decide_eq_false h
    obtain ⟨m1, m2⟩ := mod_bound (i := b + 1000003 * (c + 1)) (show (0 : Int) < 2305843009213693951 by omega)
    generalize hone : (b + 1000003 * (c + 1)) % 2305843009213693951 = one at m1 m2
    generalize htwo : (one * one % 2305843009213693921 * one + 8191 * (c + 1)) % 2305843009213693907 = two
    obtain ⟨k1, k2⟩ := mod_bound (i := two / 4096) hm
    refine ⟨two / 4096 % many, poolOb a b (c + 1), _, k1, k2, ⟨_, _, _, ha, hb, by omega, rfl⟩, rfl, ?_⟩
    simp only [m__law_take, Out.bind_ok, mBind_app, mRet_app, eVar_0, eVar_1, eVar_2, eVar_3, eVar_4, eVar_5, eVar_6, eVar_7, eVar_8, eVar_9, eVar_10, eK_app, eOp_app, asB_bl, eTest_app, tru_bl, eTru_app, eChain_app, bNot_app, bAnd_app, bOr_app, eNot_app, eAnd_app, eOr_app, eIf_app, eUn_app, lNil_app, lCons_app, eTup_app, eLst_app, eLstM_app, eCall_app, eSlice_app, asI_int, eMeth_app, sNext_app, sNever_app, sBrk_app, sCont_app, sSeq_app, sSet_app, sExpr_app, sRet_app, sRetN_app, sIf_app, sAsg_app, eRg1_app, eIsI_app, opAdd_int, opSub_int, opCmpI_int, opLt_int, opEq_int, tgName_app, tgNil_app, tgCons_app, tgTup_app, clr_nil', clr_cons', ofO_some, opIx_tup0, opIx_tup1, fLen_tup, fLen_lst, fTuple_lst, startD, isTy, List.map_cons, List.map_nil, List.length_cons, List.length_nil, List.cons_append, List.nil_append, List.replicate, Nat.reduceAdd, Nat.reduceSub, List.set_cons_zero, List.set_cons_succ, reduceIte, eq_self, Bool.false_eq_true, Bool.not_true, Bool.not_false, Option.bind_some, Bool.xor_false, Bool.xor_true, decide_true, decide_false, pool0, hd, sSetIx, pool2, put2, pool1, opMul_l (show (1000003 : Int).natAbs < 2 ^ 64 by decide), opMul_l (show (8191 : Int).natAbs < 2 ^ 64 by decide), opMod_pos (show (0 : Int) < 2305843009213693951 by omega), hone,
      opMul_l (show one.natAbs < 2 ^ 64 by omega), opMod_pos (show (0 : Int) < 2305843009213693921 by omega), opMul_r (show one.natAbs < 2 ^ 64 by omega), opMod_pos (show (0 : Int) < 2305843009213693907 by omega), htwo, opDiv_pos (show (0 : Int) < 4096 by omega) (show (4096 : Int) < 1073741824 by omega), opMod_pos hm]
theorem take_ok {ob : Ob} (hp : IsPool ob) {many : Nat} (h1 : 1 ≤ many) (h2 : many ≤ 1000000) : ∃ (x : Nat) (ob' : Ob), x < many ∧ IsPool ob' ∧ f__law_take [.ref 0, .int many] [ob] = .ok (.int x) [ob'] := by
  obtain ⟨a, b, c, ha, hb, hc, rfl⟩ := hp
  obtain ⟨x, ob', S', hx0, hx, hp', rfl, e⟩ := take_body ha hb hc (many := many) (by omega) (by omega)
  obtain ⟨n, rfl⟩ := Int.eq_ofNat_of_zero_le hx0
  refine ⟨n, ob', by omega, hp', ?_⟩
  unfold f__law_take runF
  show (match m__law_take [some (.ref 0), some (.int many), none, none, none] [poolOb a b c] with | .ok (.ret d) S' => fin 1 d S' | .ok (.next _) S' => fin 1 .non S' | .ok _ _ => .stuck | .exc e _ S' => _ | .stuck => .stuck) = _
  rw [e]
  show fin 1 (.int n) [ob'] = _
  unfold fin
  simp [hp'.pd]
/-- a number drawn by a caller -/
theorem take_call {ob : Ob} (hp : IsPool ob) {many : Nat} (h1 : 1 ≤ many) (h2 : many ≤ 1000000) {S : Sto} {p : Nat} (hS : S[p]? = some ob) (σ : Sl) : ∃ (x : Nat) (ob' : Ob), x < many ∧ IsPool ob' ∧ callF 2 f__law_take [.ref p, .int many] σ S = .ok (.int x) (S.set p ob') := by
  obtain ⟨x, ob', hx, hp', e⟩ := take_ok hp h1 h2
  exact ⟨x, ob', hx, hp', callF_ref hS hp.pd rfl e rfl rfl hp'.pd σ⟩
end K08
end
section
namespace K08
open PySem PySem.Spec PyProof.Rows L2 DL
open PySem.W (dataLe AllAlike Sortable)
theorem fLen_lstI (xs : List PyData) (S : Sto) : fLen [.lst xs] S = .ok (.int xs.length) S := fLen_lst xs
theorem pow10 (S : Sto) : opPow (.int 10) (.int 18) S = .ok (.int 1000000000000000000) S := by
  unfold opPow; dsimp only; rw [if_pos (by decide)]; rfl
theorem pool_body (ns : List Int) (k : Nat) : ∃ a b : Int, 0 ≤ a ∧ 0 ≤ b ∧ m__law_pool [some (.lst (ns.map .int)), some (.int k), none, none, none] [] = .ok (.ret (.ref 0)) [poolOb a b 0] := by
  have hcell : ∃ cell : Int, eIf (eTest (eOp opLt (eVar 1) (eCall fLen (lCons (eVar 0) lNil)))) (eOp opIx (eVar 0) (eVar 1)) (eK (.int 0)) [some (.lst (ns.map .int)), some (.int k), none, none, none] [] = .ok (.int cell) [] := by
    by_cases h : k < ns.length
    · refine ⟨ns[k], ?_⟩
      have h2 : decide ((k : Int) < ((ns.map PyData.int).length : Int)) = true := by rw [List.length_map]; exact decide_eq_true (by omega)
      simp only [Out.bind_ok, mBind_app, mRet_app, eVar_0, eVar_1, eVar_2, eVar_3, eVar_4, eVar_5, eVar_6, eVar_7, eVar_8, eVar_9, eVar_10, eK_app, eOp_app, asB_bl, eTest_app, tru_bl, eTru_app, eChain_app, bNot_app, bAnd_app, bOr_app, eNot_app, eAnd_app, eOr_app, eIf_app, eUn_app, lNil_app, lCons_app, eTup_app, eLst_app, eLstM_app, eCall_app, eSlice_app, asI_int, eMeth_app, sNext_app, sNever_app, sBrk_app, sCont_app, sSeq_app, sSet_app, sExpr_app, sRet_app, sRetN_app, sIf_app, sAsg_app, eRg1_app, eIsI_app, opAdd_int, opSub_int, opCmpI_int, opLt_int, opEq_int, tgName_app, tgNil_app, tgCons_app, tgTup_app, clr_nil', clr_cons', ofO_some, opIx_tup0, opIx_tup1, fLen_tup, fLen_lst, fTuple_lst, startD, isTy, List.map_cons, List.map_nil, List.length_cons, List.length_nil, List.cons_append, List.nil_append, List.replicate, Nat.reduceAdd, Nat.reduceSub, List.set_cons_zero, List.set_cons_succ, reduceIte, eq_self, Bool.false_eq_true, Bool.not_true, Bool.not_false, Option.bind_some, Bool.xor_false, Bool.xor_true, decide_true, decide_false, h2]
      exact opIx_lstN (by rw [List.getElem?_map, List.getElem?_eq_getElem h]; rfl)
    · refine ⟨0, ?_⟩
      have h2 : decide ((k : Int) < ((ns.map PyData.int).length : Int)) = false := by rw [List.length_map]; exact decide_eq_false (by omega)
      simp only [Out.bind_ok, mBind_app, mRet_app, eVar_0, eVar_1, eVar_2, eVar_3, eVar_4, eVar_5, eVar_6, eVar_7, eVar_8, eVar_9, eVar_10, eK_app, eOp_app, asB_bl, eTest_app, tru_bl, eTru_app, eChain_app, bNot_app, bAnd_app, bOr_app, eNot_app, eAnd_app, eOr_app, eIf_app, eUn_app, lNil_app, lCons_app, eTup_app, eLst_app, eLstM_app, eCall_app, eSlice_app, asI_int, eMeth_app, sNext_app, sNever_app, sBrk_app, sCont_app, sSeq_app, sSet_app, sExpr_app, sRet_app, sRetN_app, sIf_app, sAsg_app, eRg1_app, eIsI_app, opAdd_int, opSub_int, opCmpI_int, opLt_int, opEq_int, tgName_app, tgNil_app, tgCons_app, tgTup_app, clr_nil', clr_cons', ofO_some, opIx_tup0, opIx_tup1, fLen_tup, fLen_lst, fTuple_lst, startD, isTy, List.map_cons, List.map_nil, List.length_cons, List.length_nil, List.cons_append, List.nil_append, List.replicate, Nat.reduceAdd, Nat.reduceSub, List.set_cons_zero, List.set_cons_succ, reduceIte, eq_self, Bool.false_eq_true, Bool.not_true, Bool.not_false, Option.bind_some, Bool.xor_false, Bool.xor_true, decide_true, decide_false, h2]
  obtain ⟨cell, ec⟩ := hcell
  generalize hg : (if cell < 0 then -cell else cell) = great
  have hg0 : 0 ≤ great := by rw [← hg]; split <;> omega
  generalize hw : (great % 2147483629 * 48271 + 977 * (k : Int) + 2 * (if decide (cell < 0) = true then 1 else 0) + 5) % 2147483647 = mixed
  have hm0 : 0 ≤ mixed := by rw [← hw]; exact Int.emod_nonneg _ (by omega)
  have hi : fInt [.bl (decide (cell < 0))] [] = .ok (.int (if decide (cell < 0) = true then 1 else 0)) [] := rfl
  have e3 : fAbs [.int cell] [] = .ok (.int great) [] := by rw [← hg]; rfl
  have e4 : (eOp opMod (eOp opAdd (eOp opAdd (eOp opAdd (eOp opMul2 (eOp opMod (eVar 3) (eK (.int 2147483629))) (eK (.int 48271))) (eOp opMul2 (eK (.int 977)) (eVar 1))) (eOp opMul2 (eK (.int 2)) (eCall fInt (lCons (eOp opLt (eVar 2) (eK (.int 0))) lNil)))) (eK (.int 5))) (eK (.int 2147483647)))
      [some (.lst (ns.map .int)), some (.int k), some (.int cell), some (.int great), none] [] = .ok (.int mixed) [] := by
    simp only [Out.bind_ok, mBind_app, mRet_app, eVar_0, eVar_1, eVar_2, eVar_3, eVar_4, eVar_5, eVar_6, eVar_7, eVar_8, eVar_9, eVar_10, eK_app, eOp_app, asB_bl, eTest_app, tru_bl, eTru_app, eChain_app, bNot_app, bAnd_app, bOr_app, eNot_app, eAnd_app, eOr_app, eIf_app, eUn_app, lNil_app, lCons_app, eTup_app, eLst_app, eLstM_app, eCall_app, eSlice_app, asI_int, eMeth_app, sNext_app, sNever_app, sBrk_app, sCont_app, sSeq_app, sSet_app, sExpr_app, sRet_app, sRetN_app, sIf_app, sAsg_app, eRg1_app, eIsI_app, opAdd_int, opSub_int, opCmpI_int, opLt_int, opEq_int, tgName_app, tgNil_app, tgCons_app, tgTup_app, clr_nil', clr_cons', ofO_some, opIx_tup0, opIx_tup1, fLen_tup, fLen_lst, fTuple_lst, startD, isTy, List.map_cons, List.map_nil, List.length_cons, List.length_nil, List.cons_append, List.nil_append, List.replicate, Nat.reduceAdd, Nat.reduceSub, List.set_cons_zero, List.set_cons_succ, reduceIte, eq_self, Bool.false_eq_true, Bool.not_true, Bool.not_false, Option.bind_some, Bool.xor_false, Bool.xor_true, decide_true, decide_false, opMod_pos (show (0 : Int) < 2147483629 by omega), opMul_r (show (48271 : Int).natAbs < 2 ^ 64 by decide), opMul_l (show (977 : Int).natAbs < 2 ^ 64 by decide), opMul_l (show (2 : Int).natAbs < 2 ^ 64 by decide), hi, opMod_pos (show (0 : Int) < 2147483647 by omega), hw]
  have h5 : ∃ a : Int, 0 ≤ a ∧ eIf (eTest (eOp (opCmpI fun i j => decide (j ≤ i)) (eVar 3) (eOp opPow (eK (.int 10)) (eK (.int 18))))) (eOp opSub (eVar 3) (eOp opPow (eK (.int 10)) (eK (.int 18)))) (eK (.int 0))
      [some (.lst (ns.map .int)), some (.int k), some (.int cell), some (.int great), some (.int mixed)] [] = .ok (.int a) [] := by
    by_cases h : 1000000000000000000 ≤ great
    · exact ⟨great - 1000000000000000000, by omega, by simp only [Out.bind_ok, mBind_app, mRet_app, eVar_0, eVar_1, eVar_2, eVar_3, eVar_4, eVar_5, eVar_6, eVar_7, eVar_8, eVar_9, eVar_10, eK_app, eOp_app, asB_bl, eTest_app, tru_bl, eTru_app, eChain_app, bNot_app, bAnd_app, bOr_app, eNot_app, eAnd_app, eOr_app, eIf_app, eUn_app, lNil_app, lCons_app, eTup_app, eLst_app, eLstM_app, eCall_app, eSlice_app, asI_int, eMeth_app, sNext_app, sNever_app, sBrk_app, sCont_app, sSeq_app, sSet_app, sExpr_app, sRet_app, sRetN_app, sIf_app, sAsg_app, eRg1_app, eIsI_app, opAdd_int, opSub_int, opCmpI_int, opLt_int, opEq_int, tgName_app, tgNil_app, tgCons_app, tgTup_app, clr_nil', clr_cons', ofO_some, opIx_tup0, opIx_tup1, fLen_tup, fLen_lst, fTuple_lst, startD, isTy, List.map_cons, List.map_nil, List.length_cons, List.length_nil, List.cons_append, List.nil_append, List.replicate, Nat.reduceAdd, Nat.reduceSub, List.set_cons_zero, List.set_cons_succ, reduceIte, eq_self, Bool.false_eq_true, Bool.not_true, Bool.not_false, Option.bind_some, Bool.xor_false, Bool.xor_true, decide_true, decide_false, pow10, h]⟩
    · have h' : decide (1000000000000000000 ≤ great) = false := decide_eq_false h
      exact ⟨0, by omega, by simp only [Out.bind_ok, mBind_app, mRet_app, eVar_0, eVar_1, eVar_2, eVar_3, eVar_4, eVar_5, eVar_6, eVar_7, eVar_8, eVar_9, eVar_10, eK_app, eOp_app, asB_bl, eTest_app, tru_bl, eTru_app, eChain_app, bNot_app, bAnd_app, bOr_app, eNot_app, eAnd_app, eOr_app, eIf_app, eUn_app, lNil_app, lCons_app, eTup_app, eLst_app, eLstM_app, eCall_app, eSlice_app, asI_int, eMeth_app, sNext_app, sNever_app, sBrk_app, sCont_app, sSeq_app, sSet_app, sExpr_app, sRet_app, sRetN_app, sIf_app, sAsg_app, eRg1_app, eIsI_app, opAdd_int, opSub_int, opCmpI_int, opLt_int, opEq_int, tgName_app, tgNil_app, tgCons_app, tgTup_app, clr_nil', clr_cons', ofO_some, opIx_tup0, opIx_tup1, fLen_tup, fLen_lst, fTuple_lst, startD, isTy, List.map_cons, List.map_nil, List.length_cons, List.length_nil, List.cons_append, List.nil_append, List.replicate, Nat.reduceAdd, Nat.reduceSub, List.set_cons_zero, List.set_cons_succ, reduceIte, eq_self, Bool.false_eq_true, Bool.not_true, Bool.not_false, Option.bind_some, Bool.xor_false, Bool.xor_true, decide_true, decide_false, pow10, h']⟩
  obtain ⟨a, ha, e5⟩ := h5
  refine ⟨a, mixed, ha, hm0, ?_⟩
  unfold m__law_pool
  refine (sSeq_next (sSet_ok ec)).trans ?_
  refine (sSeq_next (sSet_ok (eCall1_ok (d := .int cell) rfl e3))).trans ?_
  refine (sSeq_next (sSet_ok e4)).trans ?_
  refine sRet_ok ?_
  rw [eLstM_app, lCons_app]
  show ((eIf _ _ _ [some (.lst (ns.map .int)), some (.int k), some (.int cell), some (.int great), some (.int mixed)] []).bind _).bind _ = _
  rw [e5]
  simp only [Out.bind_ok, mBind_app, mRet_app, eVar_0, eVar_1, eVar_2, eVar_3, eVar_4, eVar_5, eVar_6, eVar_7, eVar_8, eVar_9, eVar_10, eK_app, eOp_app, asB_bl, eTest_app, tru_bl, eTru_app, eChain_app, bNot_app, bAnd_app, bOr_app, eNot_app, eAnd_app, eOr_app, eIf_app, eUn_app, lNil_app, lCons_app, eTup_app, eLst_app, eLstM_app, eCall_app, eSlice_app, asI_int, eMeth_app, sNext_app, sNever_app, sBrk_app, sCont_app, sSeq_app, sSet_app, sExpr_app, sRet_app, sRetN_app, sIf_app, sAsg_app, eRg1_app, eIsI_app, opAdd_int, opSub_int, opCmpI_int, opLt_int, opEq_int, tgName_app, tgNil_app, tgCons_app, tgTup_app, clr_nil', clr_cons', ofO_some, opIx_tup0, opIx_tup1, fLen_tup, fLen_lst, fTuple_lst, startD, isTy, List.map_cons, List.map_nil, List.length_cons, List.length_nil, List.cons_append, List.nil_append, List.replicate, Nat.reduceAdd, Nat.reduceSub, List.set_cons_zero, List.set_cons_succ, reduceIte, eq_self, Bool.false_eq_true, Bool.not_true, Bool.not_false, Option.bind_some, Bool.xor_false, Bool.xor_true, decide_true, decide_false, mkLstM]
  show (if _ ≤ sizeLine then _ else _) = _
  rw [if_pos (by rw [sizeLine_eq]; simp)]
theorem pool_call (ns : List Int) (k : Nat) (σ : Sl) (S : Sto) : ∃ ob, IsPool ob ∧ callFM 2 f__law_pool [.lst (ns.map .int), .int k] σ S = .ok (.ref S.length) (S ++ [ob]) := by
  obtain ⟨a, b, ha, hb, e⟩ := pool_body ns k
  have hp : IsPool (poolOb a b 0) := ⟨a, b, 0, ha, hb, by omega, rfl⟩
  refine ⟨poolOb a b 0, hp, ?_⟩
  have ef : f__law_pool [.lst (ns.map .int), .int k] [] = .ok (.ref 0) [poolOb a b 0] := by
    unfold f__law_pool runFM
    show (match m__law_pool [some (.lst (ns.map .int)), some (.int k), none, none, none] [] with | .ok (.ret d) S' => finM 0 d S' | .ok _ _ => .stuck | .exc e _ S' => _ | .stuck => .stuck) = _
    rw [e]
    show finM 0 (.ref 0) [poolOb a b 0] = _
    unfold finM
    simp [hp.pd]
  unfold callFM
  simp only [refsOf_pd, refsOf_nil, obsAt_nil, renum_pd, renum_nil, ef]
  rw [if_pos ⟨rfl, List.nodup_nil, rfl⟩]
  simp [hp.pd]
end K08
end
section
namespace K08
open PySem PySem.Spec PyProof.Rows L2 DL
open PySem.W (dataLe AllAlike Sortable)
/-! ### a web drawn -/
abbrev tiesOb (L : List (Nat × Nat)) : Ob := .lst (L.map fun p => D.pd (tieD p))
/-- the ties so far, by b, then a -/
structure Colex (L : List (Nat × Nat)) (b a : Nat) : Prop where
  mem : ∀ p ∈ L, p.1 < p.2 ∧ (p.2 < b ∨ (p.2 = b ∧ p.1 < a))
  ord : L.Pairwise fun p q => p.2 < q.2 ∨ (p.2 = q.2 ∧ p.1 < q.1)
  len : L.length ≤ 12 * b + a
theorem Colex.more {L : List (Nat × Nat)} {b a : Nat} (c : Colex L b a) (h : a < b) (k : Bool) : Colex (L ++ if k = true then [(a, b)] else []) b (a + 1) := by
  cases k with
  | false =>
    rw [if_neg Bool.false_ne_true, List.append_nil]
    exact ⟨fun p hp => ⟨(c.mem p hp).1, (c.mem p hp).2.imp id fun h => ⟨h.1, by omega⟩⟩, c.ord, by have := c.len; omega⟩
  | true =>
    rw [if_pos rfl]
    refine ⟨fun p hp => ?_, ?_, ?_⟩
    · rcases List.mem_append.mp hp with hp | hp
      · exact ⟨(c.mem p hp).1, (c.mem p hp).2.imp id fun h => ⟨h.1, by omega⟩⟩
      · rw [show p = (a, b) by simpa using hp]
        exact ⟨h, .inr ⟨rfl, Nat.lt_succ_self _⟩⟩
    · rw [List.pairwise_append]
      refine ⟨c.ord, by simp, fun p hp q hq => ?_⟩
      rw [show q = (a, b) by simpa using hq]
      exact (c.mem p hp).2
    · rw [List.length_append, List.length_singleton]
      have := c.len
      omega
theorem Colex.next {L : List (Nat × Nat)} {b : Nat} (c : Colex L b b) (hb : b ≤ 12) : Colex L (b + 1) 0 :=
  ⟨fun p hp => ⟨(c.mem p hp).1, .inl (by rcases (c.mem p hp).2 with h | h <;> omega)⟩, c.ord, by have := c.len; omega⟩
theorem eqI (a b : Int) : PyData.eqv (.int a) (.int b) = (a == b) := rfl
/-- which ties: a truth is set, whatever the way -/
theorem bit_ok {ob : Ob} (hp : IsPool ob) {L : List (Nat × Nat)} {n way b a : Nat} (hw : way < 8) {r : D} {most : D} {x7 : Option D} : ∃ (k : Bool) (ob' : Ob), IsPool ob' ∧
    (sIf (eTest (eOp (opEq false) (eVar 3) (eK (.int 0)))) (sSet 7 (eOp (opEq false) (eVar 5) (eOp opAdd (eVar 6) (eK (.int 1))))) (sIf (eTest (eOp (opEq false) (eVar 3) (eK (.int 1)))) (sSet 7 (eOr (eOp (opEq false) (eVar 5) (eOp opAdd (eVar 6) (eK (.int 1)))) (eOp (opEq false) (eTup (lCons (eVar 6) (lCons (eVar 5) lNil))) (eTup (lCons (eK (.int 0)) (lCons (eOp opSub (eVar 2) (eK (.int 1))) lNil)))))) (sIf (eTest (eOp (opEq false) (eVar 3) (eK (.int 2)))) (sSet 7 (eOp (opEq false) (eVar 6) (eK (.int 0)))) (sIf (eTest (eOp (opEq false) (eVar 3) (eK (.int 3)))) (sSet 7 (eK (.bl true))) (sIf (eTest (eOp (opEq false) (eVar 3) (eK (.int 4)))) (sSet 7 (eK (.bl false))) (sSet 7 (eOr (eOp (opEq false) (mBind (lCons (eVar 0) (lCons (eK (.int 3)) lNil)) (callF 2 f__law_take)) (eK (.int 0))) (eAnd (eOp (opEq false) (eVar 5) (eOp opAdd (eVar 6) (eK (.int 1)))) (eOp (opEq false) (eVar 3) (eK (.int 5)))))))))))
      [some (.ref 0), some most, some (.int n), some (.int way), some r, some (.int b), some (.int a), x7] [ob, tiesOb L] = .ok (.next [some (.ref 0), some most, some (.int n), some (.int way), some r, some (.int b), some (.int a), some (.bl k)]) [ob', tiesOb L] := by
  by_cases h0 : (way : Int) = 0
  · refine ⟨decide ((b : Int) = (a : Int) + 1), ob, hp, ?_⟩
    simp only [Out.bind_ok, mBind_app, mRet_app, eVar_0, eVar_1, eVar_2, eVar_3, eVar_4, eVar_5, eVar_6, eVar_7, eVar_8, eVar_9, eVar_10, eK_app, eOp_app, asB_bl, eTest_app, tru_bl, eTru_app, eChain_app, bNot_app, bAnd_app, bOr_app, eNot_app, eAnd_app, eOr_app, eIf_app, eUn_app, lNil_app, lCons_app, eTup_app, eLst_app, eLstM_app, eCall_app, eSlice_app, asI_int, eMeth_app, sNext_app, sNever_app, sBrk_app, sCont_app, sSeq_app, sSet_app, sExpr_app, sRet_app, sRetN_app, sIf_app, sAsg_app, eRg1_app, eIsI_app, opAdd_int, opSub_int, opCmpI_int, opLt_int, opEq_int, tgName_app, tgNil_app, tgCons_app, tgTup_app, clr_nil', clr_cons', ofO_some, opIx_tup0, opIx_tup1, fLen_tup, fLen_lst, fTuple_lst, startD, isTy, List.map_cons, List.map_nil, List.length_cons, List.length_nil, List.cons_append, List.nil_append, List.replicate, Nat.reduceAdd, Nat.reduceSub, List.set_cons_zero, List.set_cons_succ, reduceIte, eq_self, Bool.false_eq_true, Bool.not_true, Bool.not_false, Option.bind_some, Bool.xor_false, Bool.xor_true, decide_true, decide_false, h0]
  · by_cases h1 : (way : Int) = 1
    · refine ⟨decide ((b : Int) = (a : Int) + 1) || PyData.eqv (.tuple [.int a, .int b]) (.tuple [.int 0, .int ((n : Int) - 1)]), ob, hp, ?_⟩
      have ht := fun S => opEq_ex false (okEq_tup2 (a : Int) (b : Int)) (okEq_tup2 0 ((n : Int) - 1)) S
      simp only [Out.bind_ok, mBind_app, mRet_app, eVar_0, eVar_1, eVar_2, eVar_3, eVar_4, eVar_5, eVar_6, eVar_7, eVar_8, eVar_9, eVar_10, eK_app, eOp_app, asB_bl, eTest_app, tru_bl, eTru_app, eChain_app, bNot_app, bAnd_app, bOr_app, eNot_app, eAnd_app, eOr_app, eIf_app, eUn_app, lNil_app, lCons_app, eTup_app, eLst_app, eLstM_app, eCall_app, eSlice_app, asI_int, eMeth_app, sNext_app, sNever_app, sBrk_app, sCont_app, sSeq_app, sSet_app, sExpr_app, sRet_app, sRetN_app, sIf_app, sAsg_app, eRg1_app, eIsI_app, opAdd_int, opSub_int, opCmpI_int, opLt_int, opEq_int, tgName_app, tgNil_app, tgCons_app, tgTup_app, clr_nil', clr_cons', ofO_some, opIx_tup0, opIx_tup1, fLen_tup, fLen_lst, fTuple_lst, startD, isTy, List.map_cons, List.map_nil, List.length_cons, List.length_nil, List.cons_append, List.nil_append, List.replicate, Nat.reduceAdd, Nat.reduceSub, List.set_cons_zero, List.set_cons_succ, reduceIte, eq_self, Bool.false_eq_true, Bool.not_true, Bool.not_false, Option.bind_some, Bool.xor_false, Bool.xor_true, decide_true, decide_false, h1, mkTup2, ht, show decide ((1 : Int) = 0) = false from rfl]
      rw [show ∀ (u v : Bool) (S : Sto), (if u = true then Out.ok (D.bl u) S else Out.ok (D.bl v) S) = Out.ok (D.bl (u || v)) S from fun u v S => by cases u <;> rfl]
      simp only [Out.bind_ok, mBind_app, mRet_app, eVar_0, eVar_1, eVar_2, eVar_3, eVar_4, eVar_5, eVar_6, eVar_7, eVar_8, eVar_9, eVar_10, eK_app, eOp_app, asB_bl, eTest_app, tru_bl, eTru_app, eChain_app, bNot_app, bAnd_app, bOr_app, eNot_app, eAnd_app, eOr_app, eIf_app, eUn_app, lNil_app, lCons_app, eTup_app, eLst_app, eLstM_app, eCall_app, eSlice_app, asI_int, eMeth_app, sNext_app, sNever_app, sBrk_app, sCont_app, sSeq_app, sSet_app, sExpr_app, sRet_app, sRetN_app, sIf_app, sAsg_app, eRg1_app, eIsI_app, opAdd_int, opSub_int, opCmpI_int, opLt_int, opEq_int, tgName_app, tgNil_app, tgCons_app, tgTup_app, clr_nil', clr_cons', ofO_some, opIx_tup0, opIx_tup1, fLen_tup, fLen_lst, fTuple_lst, startD, isTy, List.map_cons, List.map_nil, List.length_cons, List.length_nil, List.cons_append, List.nil_append, List.replicate, Nat.reduceAdd, Nat.reduceSub, List.set_cons_zero, List.set_cons_succ, reduceIte, eq_self, Bool.false_eq_true, Bool.not_true, Bool.not_false, Option.bind_some, Bool.xor_false, Bool.xor_true, decide_true, decide_false]
    · by_cases h2 : (way : Int) = 2
      · refine ⟨decide ((a : Int) = 0), ob, hp, ?_⟩
        simp only [Out.bind_ok, mBind_app, mRet_app, eVar_0, eVar_1, eVar_2, eVar_3, eVar_4, eVar_5, eVar_6, eVar_7, eVar_8, eVar_9, eVar_10, eK_app, eOp_app, asB_bl, eTest_app, tru_bl, eTru_app, eChain_app, bNot_app, bAnd_app, bOr_app, eNot_app, eAnd_app, eOr_app, eIf_app, eUn_app, lNil_app, lCons_app, eTup_app, eLst_app, eLstM_app, eCall_app, eSlice_app, asI_int, eMeth_app, sNext_app, sNever_app, sBrk_app, sCont_app, sSeq_app, sSet_app, sExpr_app, sRet_app, sRetN_app, sIf_app, sAsg_app, eRg1_app, eIsI_app, opAdd_int, opSub_int, opCmpI_int, opLt_int, opEq_int, tgName_app, tgNil_app, tgCons_app, tgTup_app, clr_nil', clr_cons', ofO_some, opIx_tup0, opIx_tup1, fLen_tup, fLen_lst, fTuple_lst, startD, isTy, List.map_cons, List.map_nil, List.length_cons, List.length_nil, List.cons_append, List.nil_append, List.replicate, Nat.reduceAdd, Nat.reduceSub, List.set_cons_zero, List.set_cons_succ, reduceIte, eq_self, Bool.false_eq_true, Bool.not_true, Bool.not_false, Option.bind_some, Bool.xor_false, Bool.xor_true, decide_true, decide_false, h2, show decide ((2 : Int) = 0) = false from rfl, show decide ((2 : Int) = 1) = false from rfl]
      · by_cases h3 : (way : Int) = 3
        · refine ⟨true, ob, hp, ?_⟩
          simp only [Out.bind_ok, mBind_app, mRet_app, eVar_0, eVar_1, eVar_2, eVar_3, eVar_4, eVar_5, eVar_6, eVar_7, eVar_8, eVar_9, eVar_10, eK_app, eOp_app, asB_bl, eTest_app, tru_bl, eTru_app, eChain_app, bNot_app, bAnd_app, bOr_app, eNot_app, eAnd_app, eOr_app, eIf_app, eUn_app, lNil_app, lCons_app, eTup_app, eLst_app, eLstM_app, eCall_app, eSlice_app, asI_int, eMeth_app, sNext_app, sNever_app, sBrk_app, sCont_app, sSeq_app, sSet_app, sExpr_app, sRet_app, sRetN_app, sIf_app, sAsg_app, eRg1_app, eIsI_app, opAdd_int, opSub_int, opCmpI_int, opLt_int, opEq_int, tgName_app, tgNil_app, tgCons_app, tgTup_app, clr_nil', clr_cons', ofO_some, opIx_tup0, opIx_tup1, fLen_tup, fLen_lst, fTuple_lst, startD, isTy, List.map_cons, List.map_nil, List.length_cons, List.length_nil, List.cons_append, List.nil_append, List.replicate, Nat.reduceAdd, Nat.reduceSub, List.set_cons_zero, List.set_cons_succ, reduceIte, eq_self, Bool.false_eq_true, Bool.not_true, Bool.not_false, Option.bind_some, Bool.xor_false, Bool.xor_true, decide_true, decide_false, h3, show decide ((3 : Int) = 0) = false from rfl, show decide ((3 : Int) = 1) = false from rfl, show decide ((3 : Int) = 2) = false from rfl]
        · by_cases h4 : (way : Int) = 4
          · refine ⟨false, ob, hp, ?_⟩
            simp only [Out.bind_ok, mBind_app, mRet_app, eVar_0, eVar_1, eVar_2, eVar_3, eVar_4, eVar_5, eVar_6, eVar_7, eVar_8, eVar_9, eVar_10, eK_app, eOp_app, asB_bl, eTest_app, tru_bl, eTru_app, eChain_app, bNot_app, bAnd_app, bOr_app, eNot_app, eAnd_app, eOr_app, eIf_app, eUn_app, lNil_app, lCons_app, eTup_app, eLst_app, eLstM_app, eCall_app, eSlice_app, asI_int, eMeth_app, sNext_app, sNever_app, sBrk_app, sCont_app, sSeq_app, sSet_app, sExpr_app, sRet_app, sRetN_app, sIf_app, sAsg_app, eRg1_app, eIsI_app, opAdd_int, opSub_int, opCmpI_int, opLt_int, opEq_int, tgName_app, tgNil_app, tgCons_app, tgTup_app, clr_nil', clr_cons', ofO_some, opIx_tup0, opIx_tup1, fLen_tup, fLen_lst, fTuple_lst, startD, isTy, List.map_cons, List.map_nil, List.length_cons, List.length_nil, List.cons_append, List.nil_append, List.replicate, Nat.reduceAdd, Nat.reduceSub, List.set_cons_zero, List.set_cons_succ, reduceIte, eq_self, Bool.false_eq_true, Bool.not_true, Bool.not_false, Option.bind_some, Bool.xor_false, Bool.xor_true, decide_true, decide_false, h4, show decide ((4 : Int) = 0) = false from rfl, show decide ((4 : Int) = 1) = false from rfl, show decide ((4 : Int) = 2) = false from rfl, show decide ((4 : Int) = 3) = false from rfl]
          · obtain ⟨x, ob', _, hp', et⟩ := take_call hp (many := 3) (by omega) (by omega) (S := [ob, tiesOb L]) (p := 0) rfl [some (.ref 0), some most, some (.int n), some (.int way), some r, some (.int b), some (.int a), x7]
            rw [show ((3 : Nat) : Int) = 3 from rfl] at et
            refine ⟨decide ((x : Int) = 0) || (decide ((b : Int) = (a : Int) + 1) && decide ((way : Int) = 5)), ob', hp', ?_⟩
            simp only [Out.bind_ok, mBind_app, mRet_app, eVar_0, eVar_1, eVar_2, eVar_3, eVar_4, eVar_5, eVar_6, eVar_7, eVar_8, eVar_9, eVar_10, eK_app, eOp_app, asB_bl, eTest_app, tru_bl, eTru_app, eChain_app, bNot_app, bAnd_app, bOr_app, eNot_app, eAnd_app, eOr_app, eIf_app, eUn_app, lNil_app, lCons_app, eTup_app, eLst_app, eLstM_app, eCall_app, eSlice_app, asI_int, eMeth_app, sNext_app, sNever_app, sBrk_app, sCont_app, sSeq_app, sSet_app, sExpr_app, sRet_app, sRetN_app, sIf_app, sAsg_app, eRg1_app, eIsI_app, opAdd_int, opSub_int, opCmpI_int, opLt_int, opEq_int, tgName_app, tgNil_app, tgCons_app, tgTup_app, clr_nil', clr_cons', ofO_some, opIx_tup0, opIx_tup1, fLen_tup, fLen_lst, fTuple_lst, startD, isTy, List.map_cons, List.map_nil, List.length_cons, List.length_nil, List.cons_append, List.nil_append, List.replicate, Nat.reduceAdd, Nat.reduceSub, List.set_cons_zero, List.set_cons_succ, reduceIte, eq_self, Bool.false_eq_true, Bool.not_true, Bool.not_false, Option.bind_some, Bool.xor_false, Bool.xor_true, decide_true, decide_false, h0, h1, h2, h3, h4, et]
            rw [show ∀ (u v w : Bool) (S : Sto), (if u = true then Out.ok (D.bl u) S else if v = true then Out.ok (D.bl w) S else Out.ok (D.bl v) S) = Out.ok (D.bl (u || (v && w))) S from fun u v w S => by cases u <;> cases v <;> rfl]
            simp only [Out.bind_ok, mBind_app, mRet_app, eVar_0, eVar_1, eVar_2, eVar_3, eVar_4, eVar_5, eVar_6, eVar_7, eVar_8, eVar_9, eVar_10, eK_app, eOp_app, asB_bl, eTest_app, tru_bl, eTru_app, eChain_app, bNot_app, bAnd_app, bOr_app, eNot_app, eAnd_app, eOr_app, eIf_app, eUn_app, lNil_app, lCons_app, eTup_app, eLst_app, eLstM_app, eCall_app, eSlice_app, asI_int, eMeth_app, sNext_app, sNever_app, sBrk_app, sCont_app, sSeq_app, sSet_app, sExpr_app, sRet_app, sRetN_app, sIf_app, sAsg_app, eRg1_app, eIsI_app, opAdd_int, opSub_int, opCmpI_int, opLt_int, opEq_int, tgName_app, tgNil_app, tgCons_app, tgTup_app, clr_nil', clr_cons', ofO_some, opIx_tup0, opIx_tup1, fLen_tup, fLen_lst, fTuple_lst, startD, isTy, List.map_cons, List.map_nil, List.length_cons, List.length_nil, List.cons_append, List.nil_append, List.replicate, Nat.reduceAdd, Nat.reduceSub, List.set_cons_zero, List.set_cons_succ, reduceIte, eq_self, Bool.false_eq_true, Bool.not_true, Bool.not_false, Option.bind_some, Bool.xor_false, Bool.xor_true, decide_true, decide_false]
theorem tie_lst (L : List (Nat × Nat)) (a b : Nat) (k : Bool) : (L.map fun p => D.pd (tieD p)) ++ (if k = true then [tieD (a, b)] else []).map D.pd = (L ++ if k = true then [(a, b)] else []).map fun p => D.pd (tieD p) := by
  cases k <;> simp
theorem b1_ok {ob : Ob} (hp : IsPool ob) {L : List (Nat × Nat)} {n way b a : Nat} (hw : way < 8) {most : D} {x7 : Option D} (hl : L.length ≤ 1000) : ∃ (k : Bool) (ob' : Ob), IsPool ob' ∧
    q_law_any_web_b1 [some (.ref 0), some most, some (.int n), some (.int way), some (.ref 1), some (.int b), some (.int a), x7] [ob, tiesOb L] =
      .ok (.next [some (.ref 0), some most, some (.int n), some (.int way), some (.ref 1), some (.int b), some (.int a), some (.bl k)]) [ob', tiesOb (L ++ if k = true then [(a, b)] else [])] := by
  obtain ⟨k, ob', hp', e⟩ := bit_ok hp (L := L) (n := n) (b := b) (a := a) hw (r := .ref 1) (most := most) (x7 := x7)
  refine ⟨k, ob', hp', ?_⟩
  unfold q_law_any_web_b1
  refine (sSeq_next e).trans (sExpr_ok (d := .non) ?_)
  have hi : fInt [.bl k] [ob', tiesOb L] = .ok (.int (if k = true then 1 else 0)) [ob', tiesOb L] := rfl
  have ht : tyD [ob', tiesOb L] (.ref 1) = some "list" := rfl
  have hla : lstAt [ob', tiesOb L] (.ref 1) = some (1, L.map fun p => D.pd (tieD p)) := rfl
  simp only [Out.bind_ok, mBind_app, mRet_app, eVar_0, eVar_1, eVar_2, eVar_3, eVar_4, eVar_5, eVar_6, eVar_7, eVar_8, eVar_9, eVar_10, eK_app, eOp_app, asB_bl, eTest_app, tru_bl, eTru_app, eChain_app, bNot_app, bAnd_app, bOr_app, eNot_app, eAnd_app, eOr_app, eIf_app, eUn_app, lNil_app, lCons_app, eTup_app, eLst_app, eLstM_app, eCall_app, eSlice_app, asI_int, eMeth_app, sNext_app, sNever_app, sBrk_app, sCont_app, sSeq_app, sSet_app, sExpr_app, sRet_app, sRetN_app, sIf_app, sAsg_app, eRg1_app, eIsI_app, opAdd_int, opSub_int, opCmpI_int, opLt_int, opEq_int, tgName_app, tgNil_app, tgCons_app, tgTup_app, clr_nil', clr_cons', ofO_some, opIx_tup0, opIx_tup1, fLen_tup, fLen_lst, fTuple_lst, startD, isTy, List.map_cons, List.map_nil, List.length_cons, List.length_nil, List.cons_append, List.nil_append, List.replicate, Nat.reduceAdd, Nat.reduceSub, List.set_cons_zero, List.set_cons_succ, reduceIte, eq_self, Bool.false_eq_true, Bool.not_true, Bool.not_false, Option.bind_some, Bool.xor_false, Bool.xor_true, decide_true, decide_false, ht, mkTup2, mkLst1, hi, mul_bit, mExtend, hla, asL]
  rw [if_pos (by rw [List.length_map, List.length_map, sizeLine_eq]; cases k <;> simp <;> omega), tie_lst]
theorem webs_loop {ob : Ob} (hp : IsPool ob) {n way : Nat} (hn : n ≤ 12) (hw : way < 8) {most : D} {x7 : Option D} : Sat (sFor [5, 6, 7] (iRange1 (lCons (eVar 2) lNil)) (tgName 5) q_law_any_web_b2 [some (.ref 0), some most, some (.int n), some (.int way), some (.ref 1), none, none, none] [ob, tiesOb []]) fun f S' =>
    f = .next [some (.ref 0), some most, some (.int n), some (.int way), some (.ref 1), none, none, none] ∧ ∃ ob' L, IsPool ob' ∧ Colex L n 0 ∧ S' = [ob', tiesOb L] := by
  rw [sFor_app, iRange1_nat (n := n) (by simp only [Out.bind_ok, mBind_app, mRet_app, eVar_0, eVar_1, eVar_2, eVar_3, eVar_4, eVar_5, eVar_6, eVar_7, eVar_8, eVar_9, eVar_10, eK_app, eOp_app, asB_bl, eTest_app, tru_bl, eTru_app, eChain_app, bNot_app, bAnd_app, bOr_app, eNot_app, eAnd_app, eOr_app, eIf_app, eUn_app, lNil_app, lCons_app, eTup_app, eLst_app, eLstM_app, eCall_app, eSlice_app, asI_int, eMeth_app, sNext_app, sNever_app, sBrk_app, sCont_app, sSeq_app, sSet_app, sExpr_app, sRet_app, sRetN_app, sIf_app, sAsg_app, eRg1_app, eIsI_app, opAdd_int, opSub_int, opCmpI_int, opLt_int, opEq_int, tgName_app, tgNil_app, tgCons_app, tgTup_app, clr_nil', clr_cons', ofO_some, opIx_tup0, opIx_tup1, fLen_tup, fLen_lst, fTuple_lst, startD, isTy, List.map_cons, List.map_nil, List.length_cons, List.length_nil, List.cons_append, List.nil_append, List.replicate, Nat.reduceAdd, Nat.reduceSub, List.set_cons_zero, List.set_cons_succ, reduceIte, eq_self, Bool.false_eq_true, Bool.not_true, Bool.not_false, Option.bind_some, Bool.xor_false, Bool.xor_true, decide_true, decide_false]) (by omega)]
  refine forGo_range n (fun j σ S => σ = [some (.ref 0), some most, some (.int n), some (.int way), some (.ref 1), none, none, none] ∧ ∃ ob' L, IsPool ob' ∧ Colex L j 0 ∧ S = [ob', tiesOb L]) ?_ (fun σ S h => ⟨by rw [h.1], h.2⟩) ⟨rfl, ob, [], hp, ⟨fun _ h => (nomatch h), .nil, Nat.zero_le _⟩, rfl⟩
  rintro b σ S hb ⟨rfl, ob1, L, hp1, c, rfl⟩
  simp only [q_law_any_web_b2, sFor_app, Out.bind_ok, mBind_app, mRet_app, eVar_0, eVar_1, eVar_2, eVar_3, eVar_4, eVar_5, eVar_6, eVar_7, eVar_8, eVar_9, eVar_10, eK_app, eOp_app, asB_bl, eTest_app, tru_bl, eTru_app, eChain_app, bNot_app, bAnd_app, bOr_app, eNot_app, eAnd_app, eOr_app, eIf_app, eUn_app, lNil_app, lCons_app, eTup_app, eLst_app, eLstM_app, eCall_app, eSlice_app, asI_int, eMeth_app, sNext_app, sNever_app, sBrk_app, sCont_app, sSeq_app, sSet_app, sExpr_app, sRet_app, sRetN_app, sIf_app, sAsg_app, eRg1_app, eIsI_app, opAdd_int, opSub_int, opCmpI_int, opLt_int, opEq_int, tgName_app, tgNil_app, tgCons_app, tgTup_app, clr_nil', clr_cons', ofO_some, opIx_tup0, opIx_tup1, fLen_tup, fLen_lst, fTuple_lst, startD, isTy, List.map_cons, List.map_nil, List.length_cons, List.length_nil, List.cons_append, List.nil_append, List.replicate, Nat.reduceAdd, Nat.reduceSub, List.set_cons_zero, List.set_cons_succ, reduceIte, eq_self, Bool.false_eq_true, Bool.not_true, Bool.not_false, Option.bind_some, Bool.xor_false, Bool.xor_true, decide_true, decide_false]
  rw [iRange1_nat (n := b) (by simp only [Out.bind_ok, mBind_app, mRet_app, eVar_0, eVar_1, eVar_2, eVar_3, eVar_4, eVar_5, eVar_6, eVar_7, eVar_8, eVar_9, eVar_10, eK_app, eOp_app, asB_bl, eTest_app, tru_bl, eTru_app, eChain_app, bNot_app, bAnd_app, bOr_app, eNot_app, eAnd_app, eOr_app, eIf_app, eUn_app, lNil_app, lCons_app, eTup_app, eLst_app, eLstM_app, eCall_app, eSlice_app, asI_int, eMeth_app, sNext_app, sNever_app, sBrk_app, sCont_app, sSeq_app, sSet_app, sExpr_app, sRet_app, sRetN_app, sIf_app, sAsg_app, eRg1_app, eIsI_app, opAdd_int, opSub_int, opCmpI_int, opLt_int, opEq_int, tgName_app, tgNil_app, tgCons_app, tgTup_app, clr_nil', clr_cons', ofO_some, opIx_tup0, opIx_tup1, fLen_tup, fLen_lst, fTuple_lst, startD, isTy, List.map_cons, List.map_nil, List.length_cons, List.length_nil, List.cons_append, List.nil_append, List.replicate, Nat.reduceAdd, Nat.reduceSub, List.set_cons_zero, List.set_cons_succ, reduceIte, eq_self, Bool.false_eq_true, Bool.not_true, Bool.not_false, Option.bind_some, Bool.xor_false, Bool.xor_true, decide_true, decide_false]) (by omega)]
  have inner := forGo_range (i := 6) (body := q_law_any_web_b1) (vs := [6, 7]) (P := fun f S' => ∃ ob' L', f = .next [some (.ref 0), some most, some (.int n), some (.int way), some (.ref 1), some (.int b), none, none] ∧ IsPool ob' ∧ Colex L' b b ∧ S' = [ob', tiesOb L']) b
    (fun a σ S => σ = [some (.ref 0), some most, some (.int n), some (.int way), some (.ref 1), some (.int b), none, none] ∧ ∃ ob' L', IsPool ob' ∧ Colex L' b a ∧ S = [ob', tiesOb L']) (by
      rintro a σ S ha ⟨rfl, ob2, L2, hp2, c2, rfl⟩
      obtain ⟨k, ob3, hp3, e⟩ := b1_ok hp2 (L := L2) (n := n) (b := b) (a := a) hw (most := most) (x7 := none) (by have := c2.len; omega)
      simp only [Out.bind_ok, mBind_app, mRet_app, eVar_0, eVar_1, eVar_2, eVar_3, eVar_4, eVar_5, eVar_6, eVar_7, eVar_8, eVar_9, eVar_10, eK_app, eOp_app, asB_bl, eTest_app, tru_bl, eTru_app, eChain_app, bNot_app, bAnd_app, bOr_app, eNot_app, eAnd_app, eOr_app, eIf_app, eUn_app, lNil_app, lCons_app, eTup_app, eLst_app, eLstM_app, eCall_app, eSlice_app, asI_int, eMeth_app, sNext_app, sNever_app, sBrk_app, sCont_app, sSeq_app, sSet_app, sExpr_app, sRet_app, sRetN_app, sIf_app, sAsg_app, eRg1_app, eIsI_app, opAdd_int, opSub_int, opCmpI_int, opLt_int, opEq_int, tgName_app, tgNil_app, tgCons_app, tgTup_app, clr_nil', clr_cons', ofO_some, opIx_tup0, opIx_tup1, fLen_tup, fLen_lst, fTuple_lst, startD, isTy, List.map_cons, List.map_nil, List.length_cons, List.length_nil, List.cons_append, List.nil_append, List.replicate, Nat.reduceAdd, Nat.reduceSub, List.set_cons_zero, List.set_cons_succ, reduceIte, eq_self, Bool.false_eq_true, Bool.not_true, Bool.not_false, Option.bind_some, Bool.xor_false, Bool.xor_true, decide_true, decide_false]
      rw [e]
      refine .ok ?_
      simp only [Out.bind_ok, mBind_app, mRet_app, eVar_0, eVar_1, eVar_2, eVar_3, eVar_4, eVar_5, eVar_6, eVar_7, eVar_8, eVar_9, eVar_10, eK_app, eOp_app, asB_bl, eTest_app, tru_bl, eTru_app, eChain_app, bNot_app, bAnd_app, bOr_app, eNot_app, eAnd_app, eOr_app, eIf_app, eUn_app, lNil_app, lCons_app, eTup_app, eLst_app, eLstM_app, eCall_app, eSlice_app, asI_int, eMeth_app, sNext_app, sNever_app, sBrk_app, sCont_app, sSeq_app, sSet_app, sExpr_app, sRet_app, sRetN_app, sIf_app, sAsg_app, eRg1_app, eIsI_app, opAdd_int, opSub_int, opCmpI_int, opLt_int, opEq_int, tgName_app, tgNil_app, tgCons_app, tgTup_app, clr_nil', clr_cons', ofO_some, opIx_tup0, opIx_tup1, fLen_tup, fLen_lst, fTuple_lst, startD, isTy, List.map_cons, List.map_nil, List.length_cons, List.length_nil, List.cons_append, List.nil_append, List.replicate, Nat.reduceAdd, Nat.reduceSub, List.set_cons_zero, List.set_cons_succ, reduceIte, eq_self, Bool.false_eq_true, Bool.not_true, Bool.not_false, Option.bind_some, Bool.xor_false, Bool.xor_true, decide_true, decide_false]
      exact ⟨trivial, ob3, _, hp3, c2.more ha k, rfl⟩) (fun σ S h => by
      obtain ⟨rfl, ob', L', h1, h2, h3⟩ := h
      exact ⟨ob', L', rfl, h1, h2, h3⟩) (σ := [some (.ref 0), some most, some (.int n), some (.int way), some (.ref 1), some (.int b), none, none]) (S := [ob1, tiesOb L]) ⟨rfl, ob1, L, hp1, ⟨fun p hp => ⟨(c.mem p hp).1, (c.mem p hp).2⟩, c.ord, c.len⟩, rfl⟩
  refine (Sat.imp inner fun f S' h => ?_)
  obtain ⟨ob', L', rfl, h1, h2, h3⟩ := h
  simp only [Out.bind_ok, mBind_app, mRet_app, eVar_0, eVar_1, eVar_2, eVar_3, eVar_4, eVar_5, eVar_6, eVar_7, eVar_8, eVar_9, eVar_10, eK_app, eOp_app, asB_bl, eTest_app, tru_bl, eTru_app, eChain_app, bNot_app, bAnd_app, bOr_app, eNot_app, eAnd_app, eOr_app, eIf_app, eUn_app, lNil_app, lCons_app, eTup_app, eLst_app, eLstM_app, eCall_app, eSlice_app, asI_int, eMeth_app, sNext_app, sNever_app, sBrk_app, sCont_app, sSeq_app, sSet_app, sExpr_app, sRet_app, sRetN_app, sIf_app, sAsg_app, eRg1_app, eIsI_app, opAdd_int, opSub_int, opCmpI_int, opLt_int, opEq_int, tgName_app, tgNil_app, tgCons_app, tgTup_app, clr_nil', clr_cons', ofO_some, opIx_tup0, opIx_tup1, fLen_tup, fLen_lst, fTuple_lst, startD, isTy, List.map_cons, List.map_nil, List.length_cons, List.length_nil, List.cons_append, List.nil_append, List.replicate, Nat.reduceAdd, Nat.reduceSub, List.set_cons_zero, List.set_cons_succ, reduceIte, eq_self, Bool.false_eq_true, Bool.not_true, Bool.not_false, Option.bind_some, Bool.xor_false, Bool.xor_true, decide_true, decide_false]
  exact ⟨trivial, ob', L', h1, h2.next (by omega), h3⟩
/-- the ties put in order -/
def tle (p q : Nat × Nat) : Bool := decide (p.1 < q.1 ∨ (p.1 = q.1 ∧ p.2 ≤ q.2))
theorem dataLe_tie : (fun p q : Nat × Nat => dataLe false tieD p q) = tle := by
  have := PySem.W.dataLe_ii (β := Nat × Nat) (fun p => (p.1 : Int)) (fun p => (p.2 : Int))
  funext p q
  show dataLe false (fun b : Nat × Nat => PyData.tuple [.int (b.1 : Int), .int (b.2 : Int)]) p q = _
  rw [this]
  unfold tle
  have : ∀ x y : Bool, (x = true ↔ y = true) → x = y := by decide
  apply this
  simp only [decide_eq_true_eq]
  omega
theorem sortD_ties (L : List (Nat × Nat)) : sortD (L.map tieD) = (L.mergeSort tle).map tieD := by
  unfold sortD
  rw [← dataLe_tie]
  exact (List.map_mergeSort (r := fun p q => dataLe false tieD p q) (s := dataLe false id) (f := tieD) fun a _ b _ => rfl).symm
theorem sortOk_ties (L : List (Nat × Nat)) : sortOk (L.map tieD) := by
  refine ⟨?_, AllAlike.of fun b b' => rfl, Sortable.tuples fun b => ⟨_, _, rfl⟩, fun d hd => ?_⟩
  · induction L with
    | nil => rfl
    | cons p r ih => rw [List.map_cons, PyData.hasDictAll, ih]; rfl
  · obtain ⟨p, _, rfl⟩ := List.mem_map.mp hd
    simp [PyData.depth, PyData.depthAll]
theorem gw_of {L : List (Nat × Nat)} {n : Nat} (h1 : 1 ≤ n) (h2 : n ≤ 12) (c : Colex L n 0) : GW n (L.mergeSort tle) := by
  have perm := List.mergeSort_perm L tle
  have sorted := List.pairwise_mergeSort (le := tle) (fun a b c h h' => by
    unfold tle at *
    simp only [decide_eq_true_eq] at *
    omega) (fun a b => by
    unfold tle
    simp only [Bool.or_eq_true, decide_eq_true_eq]
    omega) L
  have nd : L.Nodup := c.ord.imp fun {p q} h e => by
    subst e
    omega
  have nd2 : (L.mergeSort tle).Nodup := perm.nodup_iff.mpr nd
  refine ⟨h1, h2, fun p hp => ?_, ?_, by rw [perm.length_eq]; have := c.len; omega⟩
  · have := c.mem p (perm.mem_iff.mp hp)
    omega
  · exact (sorted.and nd2).imp fun {p q} ⟨h, hne⟩ => by
      unfold tle at h
      simp only [decide_eq_true_eq] at h
      unfold tlt
      obtain ⟨a, b⟩ := p
      obtain ⟨c, d⟩ := q
      simp only [ne_eq, Prod.mk.injEq] at hne
      show a < c ∨ (a = c ∧ b < d)
      simp only at h
      omega
end K08
end
section
namespace K08
open PySem PySem.Spec PyProof.Rows L2 DL
theorem sorted_ties {σ : Sl} {S : Sto} {p : Nat} {L : List (Nat × Nat)} (h : S[p]? = some (tiesOb L)) : fSorted [.ref p] S = .ok (.lst ((L.mergeSort tle).map tieD)) S := by
  have e : asQ S (.ref p) = some ((L.map tieD).map D.pd) := by
    unfold asQ asL
    simp only [h]
    rw [List.map_map]; rfl
  unfold fSorted
  simp only [e, pdL_map, sortOk_ties, if_true, sortD_ties]
theorem any_web_ok {ob : Ob} (hp : IsPool ob) {m : Nat} (m1 : 1 ≤ m) (m12 : m ≤ 12) : ∃ n ts ob', n ≤ m ∧ GW n ts ∧ IsPool ob' ∧ f__law_any_web [.ref 0, .int m] [ob] = .ok (.pd (webD n ts)) [ob'] := by
  obtain ⟨x, ob1, hx, hp1, e1⟩ := take_call hp (many := m) (by omega) (by omega) (S := [ob]) (p := 0) rfl [some (.ref 0), some (.int m), none, none, none, none, none, none]
  rw [List.set_cons_zero] at e1
  have hn : (1 : Int) + (x : Int) = ((x + 1 : Nat) : Int) := by omega
  obtain ⟨way, ob2, hway, hp2, e2⟩ := take_call hp1 (many := 8) (by omega) (by omega) (S := [ob1]) (p := 0) rfl [some (.ref 0), some (.int m), some (.int (x + 1 : Nat)), none, none, none, none, none]
  rw [show ((8 : Nat) : Int) = 8 from rfl, List.set_cons_zero] at e2
  obtain ⟨f, S', e3, rfl, ob3, L, hp3, c, rfl⟩ := webs_loop hp2 (n := x + 1) (way := way) (by omega) hway (most := .int m) (x7 := none)
  refine ⟨x + 1, L.mergeSort tle, ob3, by omega, gw_of (by omega) (by omega) c, hp3, ?_⟩
  have s1 : sSet 2 (eOp opAdd (eK (.int 1)) (mBind (lCons (eVar 0) (lCons (eVar 1) lNil)) (callF 2 f__law_take))) [some (.ref 0), some (.int m), none, none, none, none, none, none] [ob] =
      .ok (.next [some (.ref 0), some (.int m), some (.int (x + 1 : Nat)), none, none, none, none, none]) [ob1] := by
    simp only [Out.bind_ok, mBind_app, mRet_app, eVar_0, eVar_1, eVar_2, eVar_3, eVar_4, eVar_5, eVar_6, eVar_7, eVar_8, eVar_9, eVar_10, eK_app, eOp_app, asB_bl, eTest_app, tru_bl, eTru_app, eChain_app, bNot_app, bAnd_app, bOr_app, eNot_app, eAnd_app, eOr_app, eIf_app, eUn_app, lNil_app, lCons_app, eTup_app, eLst_app, eLstM_app, eCall_app, eSlice_app, asI_int, eMeth_app, sNext_app, sNever_app, sBrk_app, sCont_app, sSeq_app, sSet_app, sExpr_app, sRet_app, sRetN_app, sIf_app, sAsg_app, eRg1_app, eIsI_app, opAdd_int, opSub_int, opCmpI_int, opLt_int, opEq_int, tgName_app, tgNil_app, tgCons_app, tgTup_app, clr_nil', clr_cons', ofO_some, opIx_tup0, opIx_tup1, fLen_tup, fLen_lst, fTuple_lst, startD, isTy, List.map_cons, List.map_nil, List.length_cons, List.length_nil, List.cons_append, List.nil_append, List.replicate, Nat.reduceAdd, Nat.reduceSub, List.set_cons_zero, List.set_cons_succ, reduceIte, eq_self, Bool.false_eq_true, Bool.not_true, Bool.not_false, Option.bind_some, Bool.xor_false, Bool.xor_true, decide_true, decide_false, e1, hn]
  have s2 : sSet 3 (mBind (lCons (eVar 0) (lCons (eK (.int 8)) lNil)) (callF 2 f__law_take)) [some (.ref 0), some (.int m), some (.int (x + 1 : Nat)), none, none, none, none, none] [ob1] =
      .ok (.next [some (.ref 0), some (.int m), some (.int (x + 1 : Nat)), some (.int way), none, none, none, none]) [ob2] := by
    simp only [Out.bind_ok, mBind_app, mRet_app, eVar_0, eVar_1, eVar_2, eVar_3, eVar_4, eVar_5, eVar_6, eVar_7, eVar_8, eVar_9, eVar_10, eK_app, eOp_app, asB_bl, eTest_app, tru_bl, eTru_app, eChain_app, bNot_app, bAnd_app, bOr_app, eNot_app, eAnd_app, eOr_app, eIf_app, eUn_app, lNil_app, lCons_app, eTup_app, eLst_app, eLstM_app, eCall_app, eSlice_app, asI_int, eMeth_app, sNext_app, sNever_app, sBrk_app, sCont_app, sSeq_app, sSet_app, sExpr_app, sRet_app, sRetN_app, sIf_app, sAsg_app, eRg1_app, eIsI_app, opAdd_int, opSub_int, opCmpI_int, opLt_int, opEq_int, tgName_app, tgNil_app, tgCons_app, tgTup_app, clr_nil', clr_cons', ofO_some, opIx_tup0, opIx_tup1, fLen_tup, fLen_lst, fTuple_lst, startD, isTy, List.map_cons, List.map_nil, List.length_cons, List.length_nil, List.cons_append, List.nil_append, List.replicate, Nat.reduceAdd, Nat.reduceSub, List.set_cons_zero, List.set_cons_succ, reduceIte, eq_self, Bool.false_eq_true, Bool.not_true, Bool.not_false, Option.bind_some, Bool.xor_false, Bool.xor_true, decide_true, decide_false, e2]
  have s3 : sSet 4 (eLstM lNil) [some (.ref 0), some (.int m), some (.int (x + 1 : Nat)), some (.int way), none, none, none, none] [ob2] =
      .ok (.next [some (.ref 0), some (.int m), some (.int (x + 1 : Nat)), some (.int way), some (.ref 1), none, none, none]) [ob2, tiesOb []] := by
    simp only [Out.bind_ok, mBind_app, mRet_app, eVar_0, eVar_1, eVar_2, eVar_3, eVar_4, eVar_5, eVar_6, eVar_7, eVar_8, eVar_9, eVar_10, eK_app, eOp_app, asB_bl, eTest_app, tru_bl, eTru_app, eChain_app, bNot_app, bAnd_app, bOr_app, eNot_app, eAnd_app, eOr_app, eIf_app, eUn_app, lNil_app, lCons_app, eTup_app, eLst_app, eLstM_app, eCall_app, eSlice_app, asI_int, eMeth_app, sNext_app, sNever_app, sBrk_app, sCont_app, sSeq_app, sSet_app, sExpr_app, sRet_app, sRetN_app, sIf_app, sAsg_app, eRg1_app, eIsI_app, opAdd_int, opSub_int, opCmpI_int, opLt_int, opEq_int, tgName_app, tgNil_app, tgCons_app, tgTup_app, clr_nil', clr_cons', ofO_some, opIx_tup0, opIx_tup1, fLen_tup, fLen_lst, fTuple_lst, startD, isTy, List.map_cons, List.map_nil, List.length_cons, List.length_nil, List.cons_append, List.nil_append, List.replicate, Nat.reduceAdd, Nat.reduceSub, List.set_cons_zero, List.set_cons_succ, reduceIte, eq_self, Bool.false_eq_true, Bool.not_true, Bool.not_false, Option.bind_some, Bool.xor_false, Bool.xor_true, decide_true, decide_false, mkLstM]
    rw [if_pos (Nat.zero_le _)]
    rfl
  have s5 : eCall fTuple (lCons (eCall fSorted (lCons (eVar 4) lNil)) lNil) [some (.ref 0), some (.int m), some (.int (x + 1 : Nat)), some (.int way), some (.ref 1), none, none, none] [ob3, tiesOb L] = .ok (.tup ((L.mergeSort tle).map tieD)) [ob3, tiesOb L] :=
    eCall1_ok (eCall1_ok (d := .ref 1) rfl (sorted_ties (σ := []) rfl)) (fTuple_lst _)
  have e : m__law_any_web [some (.ref 0), some (.int m), none, none, none, none, none, none] [ob] = .ok (.ret (.pd (webD (x + 1) (L.mergeSort tle)))) [ob3, tiesOb L] := by
    unfold m__law_any_web
    refine (sSeq_next s1).trans ?_
    refine (sSeq_next s2).trans ?_
    refine (sSeq_next s3).trans ?_
    refine (sSeq_next e3).trans ?_
    refine sRet_ok ?_
    rw [eTup_app, lCons_app]
    show ((Out.ok (D.int (x + 1 : Nat)) _).bind _).bind _ = _
    rw [Out.bind_ok, lCons_app, s5]
    simp only [Out.bind_ok, mBind_app, mRet_app, eVar_0, eVar_1, eVar_2, eVar_3, eVar_4, eVar_5, eVar_6, eVar_7, eVar_8, eVar_9, eVar_10, eK_app, eOp_app, asB_bl, eTest_app, tru_bl, eTru_app, eChain_app, bNot_app, bAnd_app, bOr_app, eNot_app, eAnd_app, eOr_app, eIf_app, eUn_app, lNil_app, lCons_app, eTup_app, eLst_app, eLstM_app, eCall_app, eSlice_app, asI_int, eMeth_app, sNext_app, sNever_app, sBrk_app, sCont_app, sSeq_app, sSet_app, sExpr_app, sRet_app, sRetN_app, sIf_app, sAsg_app, eRg1_app, eIsI_app, opAdd_int, opSub_int, opCmpI_int, opLt_int, opEq_int, tgName_app, tgNil_app, tgCons_app, tgTup_app, clr_nil', clr_cons', ofO_some, opIx_tup0, opIx_tup1, fLen_tup, fLen_lst, fTuple_lst, startD, isTy, List.map_cons, List.map_nil, List.length_cons, List.length_nil, List.cons_append, List.nil_append, List.replicate, Nat.reduceAdd, Nat.reduceSub, List.set_cons_zero, List.set_cons_succ, reduceIte, eq_self, Bool.false_eq_true, Bool.not_true, Bool.not_false, Option.bind_some, Bool.xor_false, Bool.xor_true, decide_true, decide_false, mkTup2]
  unfold f__law_any_web runF
  show (match m__law_any_web [some (.ref 0), some (.int m), none, none, none, none, none, none] [ob] with | .ok (.ret d) S' => fin 1 d S' | .ok (.next _) S' => fin 1 .non S' | .ok _ _ => .stuck | .exc e _ S' => _ | .stuck => .stuck) = _
  rw [e]
  show fin 1 (.pd (webD (x + 1) (L.mergeSort tle))) [ob3, tiesOb L] = _
  unfold fin
  simp [hp3.pd]
theorem any_web_call {ob : Ob} (hp : IsPool ob) {S : Sto} {p : Nat} (hS : S[p]? = some ob) {m : Nat} (m1 : 1 ≤ m) (m12 : m ≤ 12) (σ : Sl) : ∃ n ts ob', n ≤ m ∧ GW n ts ∧ IsPool ob' ∧ callF 2 f__law_any_web [.ref p, .int m] σ S = .ok (.pd (webD n ts)) (S.set p ob') := by
  obtain ⟨n, ts, ob', hm, w, hp', e⟩ := any_web_ok hp m1 m12
  exact ⟨n, ts, ob', hm, w, hp', callF_ref hS hp.pd rfl e rfl rfl hp'.pd σ⟩
end K08
end
section
namespace K08
open PySem PySem.Spec PyProof.Rows L2 DL
theorem okEq_tupN (l : List Nat) : okEq (.tuple (l.map nD)) = true := by
  have h := okEq_ints l
  unfold okEq SeqAt.shaped at h ⊢
  simpa [PyData.canLay0, PyData.depth] using h
theorem opIn_nat (l : List Nat) (v : Nat) (S : Sto) : opIn false (.int v) (.tup (l.map nD)) S = .ok (.bl (decide (v ∈ l))) S := by
  unfold opIn
  simp only [okEq_int, okEq_tupN, Bool.and_self, if_true, Bool.xor_false]
  congr 3
  rw [List.any_map]
  have : ∀ x y : Bool, (x = true ↔ y = true) → x = y := by decide
  apply this
  rw [List.any_eq_true, decide_eq_true_eq]
  refine ⟨fun ⟨x, hx, e⟩ => ?_, fun h => ⟨v, h, ?_⟩⟩
  · have e : PyData.eqv (.int (x : Nat)) (.int (v : Nat)) = true := e
    rw [eqvI, decide_eq_true_eq] at e
    rw [← e]; exact hx
  · show PyData.eqv (.int (v : Nat)) (.int (v : Nat)) = true
    rw [eqvI]; simp
theorem mem_nb {n : Nat} {ts : List (Nat × Nat)} (w : GW n ts) {u v : Nat} : v ∈ nb ts u ↔ (u, v) ∈ ts ∨ (v, u) ∈ ts := by
  unfold nb
  rw [List.mem_map]
  constructor
  · rintro ⟨⟨a, b⟩, hp, e⟩
    rw [List.mem_filter] at hp
    have h2 := hp.2
    simp only [Bool.or_eq_true, decide_eq_true_eq] at h2
    have e : a + b - u = v := e
    rcases h2 with h2 | h2
    · left; rw [show (u, v) = (a, b) from by rw [Prod.mk.injEq]; omega]; exact hp.1
    · right; rw [show (v, u) = (a, b) from by rw [Prod.mk.injEq]; omega]; exact hp.1
  · rintro (h | h)
    · exact ⟨(u, v), List.mem_filter.mpr ⟨h, by simp⟩, by show u + v - u = v; omega⟩
    · exact ⟨(v, u), List.mem_filter.mpr ⟨h, by simp⟩, by show v + u - u = v; omega⟩
def d99 : Option Nat → Nat
  | some d => d
  | none => 99
end K08
end
section
namespace K08
open PySem PySem.Spec PyProof.Rows L2 DL
open PySem.W (dataLe AllAlike Sortable)
/-! ### the steps as a measure -/
section
variable {n : Nat} {ts : List (Nat × Nat)} (w : GW n ts)
include w
theorem adj_sym {u v : Nat} (h : adj ts u v) : adj ts v u := (mem_nb w).mpr ((mem_nb w).mp h).symm
theorem ball_front {u v s k : Nat} (a : adj ts v u) (h : PG.ball (adj ts) (inL [u]) k s) : PG.ball (adj ts) (inL [v]) (k + 1) s := by
  induction k generalizing s with
  | zero =>
    have e : s = u := by simpa [PG.ball, inL] using h
    subst e
    exact .inr ⟨v, by simp [PG.ball, inL], a⟩
  | succ k ih =>
    rcases h with h | ⟨x, h, b⟩
    · exact .inl (ih h)
    · exact .inr ⟨x, ih h, b⟩
theorem ball_sym {s v k : Nat} (h : PG.ball (adj ts) (inL [s]) k v) : PG.ball (adj ts) (inL [v]) k s := by
  induction k generalizing v with
  | zero =>
    have e : v = s := by simpa [PG.ball, inL] using h
    subst e
    exact h
  | succ k ih =>
    rcases h with h | ⟨x, h, b⟩
    · exact .inl (ih h)
    · exact ball_front w (adj_sym w b) (ih h)
omit w in
theorem ball_add {s t o a b : Nat} (h : PG.ball (adj ts) (inL [s]) a t) (h' : PG.ball (adj ts) (inL [t]) b o) : PG.ball (adj ts) (inL [s]) (a + b) o := by
  induction b generalizing o with
  | zero =>
    have e : o = t := by simpa [PG.ball, inL] using h'
    subst e
    exact h
  | succ b ih =>
    rcases h' with h' | ⟨x, h', c⟩
    · exact .inl (ih h')
    · exact .inr ⟨x, ih h', c⟩
theorem dst_sym (s v : Nat) : dst ts [s] v = dst ts [v] s := by
  cases e : dst ts [v] s with
  | some d =>
    obtain ⟨h1, h2⟩ := dst_some.mp e
    exact dst_some.mpr ⟨ball_sym w h1, fun k hk => h2 k (ball_sym w hk)⟩
  | none => exact dst_none.mpr fun k hk => dst_none.mp e k (ball_sym w hk)
theorem dst_le {l : List Nat} (hl : ∀ v ∈ l, v < n) {v d : Nat} (e : dst ts l v = some d) : d ≤ n := PG.dist_le (fun v h => hl v h) (fun u v h => adj_lt w h) (dst_some.mp e)
theorem d99_le {l : List Nat} (hl : ∀ v ∈ l, v < n) (v : Nat) : d99 (dst ts l v) ≤ 99 := by
  have := w.n12
  cases e : dst ts l v with
  | some d => have := dst_le w hl e; show d ≤ 99; omega
  | none => exact Nat.le_refl _
omit w in
theorem d99_ball {l : List Nat} {v k : Nat} (h : PG.ball (adj ts) (inL l) k v) : d99 (dst ts l v) ≤ k := by
  obtain ⟨d, hd⟩ := PG.exists_dist h
  rw [dst_some.mpr hd]
  exact hd.2 k h
theorem triangle {s t o : Nat} (hs : s < n) (ht : t < n) : d99 (dst ts [s] o) ≤ d99 (dst ts [s] t) + d99 (dst ts [t] o) := by
  have h0 := d99_le w (one_ok hs).2.1 o
  cases e1 : dst ts [s] t with
  | none => show _ ≤ 99 + _; omega
  | some a =>
    cases e2 : dst ts [t] o with
    | none => show _ ≤ _ + 99; omega
    | some b => exact d99_ball (ball_add (dst_some.mp e1).1 (dst_some.mp e2).1)
theorem near_d99 {s v : Nat} (hs : s < n) {far : Nat} (hf : far ≤ 98) : near (dst ts [s] v) far = decide (d99 (dst ts [s] v) ≤ far) := by
  cases e : dst ts [s] v with
  | some d => show decide ((d : Int) ≤ (far : Int)) = decide (d ≤ far); simp
  | none => show false = decide (99 ≤ far); simp; omega
theorem near_far {s v : Nat} (hs : s < n) {far : Int} (hf : 12 ≤ far) : near (dst ts [s] v) far = near (dst ts [s] v) 12 := by
  have := w.n12
  cases e : dst ts [s] v with
  | some d =>
    have := dst_le w (one_ok hs).2.1 e
    show decide ((d : Int) ≤ far) = decide ((d : Int) ≤ 12)
    rw [decide_eq_true (show (d : Int) ≤ far by omega), decide_eq_true (show (d : Int) ≤ 12 by omega)]
  | none => rfl
theorem nb_rise (s : Nat) : (nb ts s).Pairwise (· < ·) := by
  unfold nb
  rw [List.pairwise_map]
  refine List.Pairwise.imp_of_mem (R := tlt) (fun {p q} hp hq h => ?_) (w.ris.filter _)
  rw [List.mem_filter] at hp hq
  have h1 := w.tie p hp.1
  have h2 := w.tie q hq.1
  have h3 := hp.2
  have h4 := hq.2
  simp only [Bool.or_eq_true, decide_eq_true_eq] at h3 h4
  unfold tlt at h
  omega
theorem near_one {s v : Nat} (hs : s < n) (hv : v < n) : near (dst ts [s] v) 1 = true ↔ v = s ∨ v ∈ nb ts s := by
  rw [show (1 : Int) = ((1 : Nat) : Int) from rfl, near_d99 w hs (by omega), decide_eq_true_eq]
  constructor
  · intro h
    cases e : dst ts [s] v with
    | none => rw [e] at h; exact absurd h (by show ¬ (99 ≤ 1); omega)
    | some d =>
      rw [e] at h
      have h : d ≤ 1 := h
      have hb := PG.ball_mono (dst_some.mp e).1 h
      rcases hb with hb | ⟨u, hb, a⟩
      · exact .inl (by simpa [PG.ball, inL] using hb)
      · have : u = s := by simpa [PG.ball, inL] using hb
        subst this
        exact .inr a
  · rintro (rfl | h)
    · exact Nat.le_trans (d99_ball (k := 0) (by simp [PG.ball, inL])) (Nat.zero_le _)
    · exact d99_ball (k := 1) (.inr ⟨s, by simp [PG.ball, inL], h⟩)
end
theorem rise_ext : ∀ {l l' : List Nat}, l.Pairwise (· < ·) → l'.Pairwise (· < ·) → (∀ x, x ∈ l ↔ x ∈ l') → l = l'
  | [], [], _, _, _ => rfl
  | [], y :: r, _, _, h => absurd ((h y).mpr List.mem_cons_self) List.not_mem_nil
  | x :: r, [], _, _, h => absurd ((h x).mp List.mem_cons_self) List.not_mem_nil
  | x :: r, y :: r', hp, hq, h => by
    rw [List.pairwise_cons] at hp hq
    have e : x = y := by
      rcases List.mem_cons.mp ((h x).mp List.mem_cons_self) with q | q
      · exact q
      · rcases List.mem_cons.mp ((h y).mpr List.mem_cons_self) with q' | q'
        · exact q'.symm
        · have := hq.1 x q
          have := hp.1 y q'
          omega
    subst e
    rw [rise_ext hp.2 hq.2 fun z => ?_]
    constructor
    · intro hz
      rcases List.mem_cons.mp ((h z).mp (List.mem_cons_of_mem _ hz)) with q | q
      · have := hp.1 z hz; omega
      · exact q
    · intro hz
      rcases List.mem_cons.mp ((h z).mpr (List.mem_cons_of_mem _ hz)) with q | q
      · have := hq.1 z hz; omega
      · exact q
def nle (a b : Nat) : Bool := decide (a ≤ b)
theorem dataLe_nat : (fun a b : Nat => dataLe false nD a b) = nle := by
  have := PySem.W.dataLe_int (β := Nat) (fun a => (a : Int))
  funext a b
  show dataLe false (fun a : Nat => PyData.int (a : Int)) a b = _
  rw [this]
  unfold nle
  simp
theorem sortD_nat (l : List Nat) : sortD (l.map nD) = (l.mergeSort nle).map nD := by
  unfold sortD
  rw [← dataLe_nat]
  exact (List.map_mergeSort (r := fun a b => dataLe false nD a b) (s := dataLe false id) (f := nD) fun a _ b _ => rfl).symm
theorem sortOk_nat (l : List Nat) : sortOk (l.map nD) := by
  refine ⟨?_, AllAlike.of fun b b' => rfl, Sortable.others fun b => ⟨(by intro h; cases h), fun xs h => (by cases h)⟩, fun d hd => ?_⟩
  · induction l with
    | nil => rfl
    | cons p r ih => rw [List.map_cons, PyData.hasDictAll, ih]; rfl
  · obtain ⟨p, _, rfl⟩ := List.mem_map.mp hd
    simp [PyData.depth]
theorem sorted_nat {l l' : List Nat} (hn : l.Nodup) (hr : l'.Pairwise (· < ·)) (h : ∀ x, x ∈ l ↔ x ∈ l') (S : Sto) : fSorted [.tup (l.map nD)] S = .ok (.lst (l'.map nD)) S := by
  have perm := List.mergeSort_perm l nle
  have sorted := List.pairwise_mergeSort (le := nle) (fun a b c h h' => by
    unfold nle at *
    simp only [decide_eq_true_eq] at *
    omega) (fun a b => by
    unfold nle
    simp only [Bool.or_eq_true, decide_eq_true_eq]
    omega) l
  have strict : (l.mergeSort nle).Pairwise (· < ·) := (sorted.and (perm.nodup_iff.mpr hn)).imp fun {p q} ⟨h, hne⟩ => by
    unfold nle at h
    simp only [decide_eq_true_eq] at h
    exact Nat.lt_of_le_of_ne h hne
  have e : l.mergeSort nle = l' := rise_ext strict hr fun x => (perm.mem_iff).trans (h x)
  have ea : asQ S (.tup (l.map nD)) = some ((l.map nD).map D.pd) := rfl
  unfold fSorted
  simp only [ea, pdL_map, sortOk_nat, if_true, sortD_nat, e]
end K08
end
section
namespace K08
open PySem PySem.Spec PyProof.Rows L2 DL
theorem eqv_refl_opt (o : Option Nat) : PyData.eqv (optD o) (optD o) = true := by cases o <;> simp [optD, PyData.eqv]
theorem eqvAll_refl (f : Nat → PyData) (hf : ∀ v, PyData.eqv (f v) (f v) = true) : ∀ l : List Nat, PyData.eqvAll (l.map f) (l.map f) = true
  | [] => rfl
  | x :: r => by rw [List.map_cons, PyData.eqvAll, hf, eqvAll_refl f hf r]; rfl
theorem flat_ok (f : Nat → PyData) (hf : ∀ v, (f v).canLay0 = true ∧ (f v).depth = 0) (l : List Nat) : PyData.canLayAll0 (l.map f) = true ∧ PyData.depthAll (l.map f) = 0 := by
  induction l with
  | nil => exact ⟨rfl, rfl⟩
  | cons x r ih => exact ⟨by rw [List.map_cons, PyData.canLayAll0, (hf x).1, ih.1]; rfl, by rw [List.map_cons, PyData.depthAll, (hf x).2, ih.2]; rfl⟩
theorem opt_flat (o : Option Nat) : (optD o).canLay0 = true ∧ (optD o).depth = 0 := by cases o <;> exact ⟨rfl, rfl⟩
theorem okEq_flat (f : Nat → PyData) (hf : ∀ v, (f v).canLay0 = true ∧ (f v).depth = 0) (l : List Nat) : okEq (.list (l.map f)) = true ∧ okEq (.tuple (l.map f)) = true := by
  obtain ⟨h1, h2⟩ := flat_ok f hf l
  unfold okEq SeqAt.shaped
  simp [PyData.canLay0, PyData.depth, h1, h2]
theorem eqFlatL (ne : Bool) (f : Nat → PyData) (hf : ∀ v, (f v).canLay0 = true ∧ (f v).depth = 0) (hr : ∀ v, PyData.eqv (f v) (f v) = true) (l : List Nat) (S : Sto) : opEq ne (.lst (l.map f)) (.lst (l.map f)) S = .ok (.bl (!ne)) S := by
  rw [opEq_ex ne (okEq_flat f hf l).1 (okEq_flat f hf l).1]
  have : PyData.eqv (.list (l.map f)) (.list (l.map f)) = true := by simp only [PyData.eqv]; exact eqvAll_refl f hr l
  rw [this]
  cases ne <;> rfl
theorem eqFlatT (ne : Bool) (f : Nat → PyData) (hf : ∀ v, (f v).canLay0 = true ∧ (f v).depth = 0) (hr : ∀ v, PyData.eqv (f v) (f v) = true) (l : List Nat) (S : Sto) : opEq ne (.tup (l.map f)) (.tup (l.map f)) S = .ok (.bl (!ne)) S := by
  rw [opEq_ex ne (okEq_flat f hf l).2 (okEq_flat f hf l).2]
  have : PyData.eqv (.tuple (l.map f)) (.tuple (l.map f)) = true := by simp only [PyData.eqv]; exact eqvAll_refl f hr l
  rw [this]
  cases ne <;> rfl
/-- rows of small numbers, or none: their repr is short -/
theorem small_flat (f : Nat → PyData) (hf : ∀ v, small (f v) = true ∧ wt (f v) ≤ 12 ∧ (f v).depth = 0) (l : List Nat) : smallAll (l.map f) = true ∧ wtAll (l.map f) ≤ 14 * l.length ∧ PyData.depthAll (l.map f) = 0 := by
  induction l with
  | nil => exact ⟨rfl, Nat.le_refl _, rfl⟩
  | cons x r ih =>
    obtain ⟨a1, a2, a3⟩ := hf x
    refine ⟨by rw [List.map_cons, smallAll, a1, ih.1]; rfl, ?_, by rw [List.map_cons, PyData.depthAll, a3, ih.2.2]; rfl⟩
    rw [List.map_cons, wtAll, List.length_cons]
    omega
theorem repr_flat (f : Nat → PyData) (hf : ∀ v, small (f v) = true ∧ wt (f v) ≤ 12 ∧ (f v).depth = 0) (l : List Nat) (hl : l.length ≤ 1000) : reprOk (.list (l.map f)) = true ∧ reprOk (.tuple (l.map f)) = true := by
  obtain ⟨h1, h2, h3⟩ := small_flat f hf l
  refine ⟨reprOk_small (by simpa [small] using h1) (by simp [PyData.depth, h3]) (by simp only [wt]; omega), reprOk_small (by simpa [small] using h1) (by simp [PyData.depth, h3]) (by simp only [wt]; omega)⟩
theorem small_nD {m : Nat} (h : m ≤ 1000) : small (nD m) = true ∧ wt (nD m) ≤ 12 ∧ (nD m).depth = 0 := by
  refine ⟨?_, by simp [wt], by simp [PyData.depth]⟩
  simp only [small, Bool.and_eq_true, decide_eq_true_eq]
  omega
theorem small_opt {n : Nat} {ts : List (Nat × Nat)} (w : GW n ts) {l : List Nat} (hl : ∀ v ∈ l, v < n) (v : Nat) : small (optD (dst ts l v)) = true ∧ wt (optD (dst ts l v)) ≤ 12 ∧ (optD (dst ts l v)).depth = 0 := by
  have := w.n12
  cases e : dst ts l v with
  | none => exact ⟨rfl, by show 5 ≤ 12; omega, rfl⟩
  | some d =>
    have := dst_le w hl e
    exact small_nD (by omega)
theorem intsOf_nat (l : List Nat) (S : Sto) : intsOf S (.lst (l.map nD)) = some (l.map fun (x : Nat) => (x : Int)) := by
  unfold intsOf asL
  dsimp only
  rw [pdL_map]
  dsimp only
  rw [show l.map nD = (l.map fun (x : Nat) => (x : Int)).map PyData.int by rw [List.map_map]; rfl, intsL_map]
theorem fMin1_nat {l : List Nat} (h : l ≠ []) (S : Sto) : ∃ m, m ∈ l ∧ (∀ x ∈ l, m ≤ x) ∧ fMin1 [.lst (l.map nD)] S = .ok (.int (m : Nat)) S := by
  have hne : (l.map fun (x : Nat) => (x : Int)) ≠ [] := by simpa using h
  obtain ⟨h1, h2⟩ := leastI_spec hne
  obtain ⟨m, hm, e⟩ := List.mem_map.mp h1
  refine ⟨m, hm, fun x hx => ?_, ?_⟩
  · have := h2 (x : Int) (List.mem_map.mpr ⟨x, hx, rfl⟩)
    rw [← e] at this
    exact Int.ofNat_le.mp this
  · unfold fMin1
    simp only [intsOf_nat]
    rw [if_pos hne, ← e]
theorem nD_flat (v : Nat) : (nD v).canLay0 = true ∧ (nD v).depth = 0 := ⟨rfl, rfl⟩
theorem nD_refl (v : Nat) : PyData.eqv (nD v) (nD v) = true := by simp [PyData.eqv]
theorem fList_tup (xs : List PyData) (S : Sto) : fList [.tup xs] S = .ok (.lst xs) S := by
  show (match pdL (xs.map D.pd) with | some zs => Out.ok (D.lst zs) S | none => .stuck) = _
  rw [pdL_map]
end K08
end
section
namespace K08
open PySem PySem.Spec PyProof.Rows L2 DL
/-! ### one web in another -/
theorem ball_emb {A B : Nat → Nat → Prop} (φ : Nat → Nat) {n s : Nat} (hs : s < n) (hA : ∀ u v, A u v → v < n) (hAB : ∀ u x, u < n → (B (φ u) x ↔ ∃ v, x = φ v ∧ A u v)) {k x : Nat} :
    PG.ball B (inL [φ s]) k x ↔ ∃ v, v < n ∧ x = φ v ∧ PG.ball A (inL [s]) k v := by
  induction k generalizing x with
  | zero =>
    constructor
    · intro h
      have h : x = φ s := by simpa [PG.ball, inL] using h
      exact ⟨s, hs, h, by simp [PG.ball, inL]⟩
    · rintro ⟨v, hv, rfl, h⟩
      have h : v = s := by simpa [PG.ball, inL] using h
      subst h
      simp [PG.ball, inL]
  | succ k ih =>
    constructor
    · rintro (h | ⟨u, h, b⟩)
      · obtain ⟨v, hv, e, h⟩ := ih.mp h
        exact ⟨v, hv, e, .inl h⟩
      · obtain ⟨v, hv, rfl, h1⟩ := ih.mp h
        obtain ⟨v2, rfl, a⟩ := (hAB v x hv).mp b
        exact ⟨v2, hA _ _ a, rfl, .inr ⟨v, h1, a⟩⟩
    · rintro ⟨v, hv, rfl, h | ⟨u, h, a⟩⟩
      · exact .inl (ih.mpr ⟨v, hv, rfl, h⟩)
      · have hu : u < n := PG.ball_lt (fun v h => by rw [show v = s by simpa [inL] using h]; exact hs) hA h
        exact .inr ⟨φ u, ih.mpr ⟨u, hu, rfl, h⟩, (hAB u _ hu).mpr ⟨v, rfl, a⟩⟩
theorem dst_emb {n : Nat} {ts us : List (Nat × Nat)} (φ : Nat → Nat) (inj : ∀ u v, u < n → v < n → φ u = φ v → u = v) {s : Nat} (hs : s < n) (hA : ∀ u v, adj ts u v → v < n)
    (hAB : ∀ u x, u < n → (adj us (φ u) x ↔ ∃ v, x = φ v ∧ adj ts u v)) {v : Nat} (hv : v < n) : dst us [φ s] (φ v) = dst ts [s] v := by
  have key : ∀ k, PG.ball (adj us) (inL [φ s]) k (φ v) ↔ PG.ball (adj ts) (inL [s]) k v := fun k => by
    rw [ball_emb φ hs hA hAB]
    exact ⟨fun ⟨v2, hv2, e, h⟩ => by rw [inj v v2 hv hv2 e]; exact h, fun h => ⟨v, hv, rfl, h⟩⟩
  cases e : dst ts [s] v with
  | some d =>
    obtain ⟨h1, h2⟩ := dst_some.mp e
    exact dst_some.mpr ⟨(key d).mpr h1, fun k h => h2 k ((key k).mp h)⟩
  | none => exact dst_none.mpr fun k h => dst_none.mp e k ((key k).mp h)
theorem dst_out {n : Nat} {ts us : List (Nat × Nat)} (φ : Nat → Nat) {s : Nat} (hs : s < n) (hA : ∀ u v, adj ts u v → v < n)
    (hAB : ∀ u x, u < n → (adj us (φ u) x ↔ ∃ v, x = φ v ∧ adj ts u v)) {x : Nat} (hx : ∀ v, v < n → x ≠ φ v) : dst us [φ s] x = none := by
  refine dst_none.mpr fun k h => ?_
  obtain ⟨v, hv, e, _⟩ := (ball_emb φ hs hA hAB).mp h
  exact hx v hv e
/-- two webs beside one another -/
def shift (n : Nat) (p : Nat × Nat) : Nat × Nat := (p.1 + n, p.2 + n)
def bes (n : Nat) (ts us : List (Nat × Nat)) : List (Nat × Nat) := ts ++ us.map (shift n)
theorem rise_len : ∀ {l : List Nat} {a b : Nat}, l.Pairwise (· < ·) → (∀ x ∈ l, a ≤ x ∧ x < b) → l.length ≤ b - a
  | [], _, _, _, _ => Nat.zero_le _
  | x :: r, a, b, hp, h => by
    rw [List.pairwise_cons] at hp
    have h0 := h x List.mem_cons_self
    have ih := rise_len (a := x + 1) (b := b) hp.2 fun y hy => ⟨hp.1 y hy, (h y (List.mem_cons_of_mem _ hy)).2⟩
    rw [List.length_cons]
    omega
theorem ts_len {n : Nat} {ts : List (Nat × Nat)} (w : GW n ts) : ts.length ≤ 144 := by
  have hn := w.n12
  have h1 : (ts.map fun p => p.1 * 12 + p.2).Pairwise (· < ·) := by
    rw [List.pairwise_map]
    refine List.Pairwise.imp_of_mem (R := tlt) (fun {p q} hp hq h => ?_) w.ris
    have := w.tie p hp
    have := w.tie q hq
    unfold tlt at h
    omega
  have := rise_len (a := 0) (b := 144) h1 fun x hx => by
    obtain ⟨p, hp, rfl⟩ := List.mem_map.mp hx
    have := w.tie p hp
    omega
  rw [List.length_map] at this
  omega
section
variable {n m : Nat} {ts us : List (Nat × Nat)} (w : GW n ts) (w2 : GW m us)
include w w2
theorem gw_bes (h : n + m ≤ 12) : GW (n + m) (bes n ts us) := by
  have := w.n1
  have l1 := w.len
  have l2 := w2.len
  refine ⟨by omega, h, fun p hp => ?_, ?_, ?_⟩
  · rcases List.mem_append.mp hp with hp | hp
    · have := w.tie p hp; omega
    · obtain ⟨q, hq, rfl⟩ := List.mem_map.mp hp
      have := w2.tie q hq
      show q.1 + n < q.2 + n ∧ q.2 + n < n + m
      omega
  · refine List.pairwise_append.mpr ⟨w.ris, ?_, fun p hp q hq => ?_⟩
    · rw [List.pairwise_map]
      refine w2.ris.imp fun {p q} h => ?_
      unfold tlt shift at *
      simp only
      omega
    · obtain ⟨q, hq, rfl⟩ := List.mem_map.mp hq
      have := w.tie p hp
      left
      show p.1 < q.1 + n
      omega
  · have : ts.length ≤ 144 := ts_len w
    have : us.length ≤ 144 := ts_len w2
    unfold bes
    rw [List.length_append, List.length_map]
    omega
theorem bes_left {u x : Nat} (hu : u < n) (h : n + m ≤ 12) : adj (bes n ts us) u x ↔ adj ts u x := by
  have wb := gw_bes w w2 h
  show x ∈ nb (bes n ts us) u ↔ x ∈ nb ts u
  rw [mem_nb wb, mem_nb w]
  unfold bes
  rw [List.mem_append, List.mem_append]
  constructor
  · rintro ((h | h) | (h | h))
    · exact .inl h
    · obtain ⟨q, hq, e⟩ := List.mem_map.mp h
      have e1 : q.1 + n = u := congrArg Prod.fst e
      omega
    · exact .inr h
    · obtain ⟨q, hq, e⟩ := List.mem_map.mp h
      have e1 : q.2 + n = u := congrArg Prod.snd e
      omega
  · rintro (h | h)
    · exact .inl (.inl h)
    · exact .inr (.inl h)
theorem bes_right {u x : Nat} (h : n + m ≤ 12) : adj (bes n ts us) (u + n) x ↔ ∃ v, x = v + n ∧ adj us u v := by
  have wb := gw_bes w w2 h
  have ee : ∀ v, adj us u v ↔ (u, v) ∈ us ∨ (v, u) ∈ us := fun v => mem_nb w2
  show x ∈ nb (bes n ts us) (u + n) ↔ _
  simp only [ee]
  rw [mem_nb wb]
  unfold bes
  rw [List.mem_append, List.mem_append]
  constructor
  · rintro ((h | h) | (h | h))
    · have := w.tie _ h
      simp only at this
      omega
    · obtain ⟨⟨a, b⟩, hq, e⟩ := List.mem_map.mp h
      have e1 : a + n = u + n := congrArg Prod.fst e
      have e2 : b + n = x := congrArg Prod.snd e
      rw [show a = u by omega] at hq
      exact ⟨b, e2.symm, .inl hq⟩
    · have := w.tie _ h
      simp only at this
      omega
    · obtain ⟨⟨a, b⟩, hq, e⟩ := List.mem_map.mp h
      have e1 : a + n = x := congrArg Prod.fst e
      have e2 : b + n = u + n := congrArg Prod.snd e
      rw [show b = u by omega] at hq
      exact ⟨a, e1.symm, .inr hq⟩
  · rintro ⟨v, rfl, h | h⟩
    · exact .inl (.inr (List.mem_map.mpr ⟨(u, v), h, rfl⟩))
    · exact .inr (.inr (List.mem_map.mpr ⟨(v, u), h, rfl⟩))
theorem dst_left {s v : Nat} (hs : s < n) (hv : v < n) (h : n + m ≤ 12) : dst (bes n ts us) [s] v = dst ts [s] v :=
  dst_emb (fun v => v) (fun _ _ _ _ e => e) hs (fun _ _ a => adj_lt w a) (fun u x hu => by rw [bes_left w w2 hu h]; exact ⟨fun a => ⟨x, rfl, a⟩, fun ⟨v, e, a⟩ => by rw [e]; exact a⟩) hv
theorem dst_left0 {s v : Nat} (hs : s < n) (hv : n ≤ v) (h : n + m ≤ 12) : dst (bes n ts us) [s] v = none :=
  dst_out (ts := ts) (fun v => v) hs (fun _ _ a => adj_lt w a) (fun u x hu => by rw [bes_left w w2 hu h]; exact ⟨fun a => ⟨x, rfl, a⟩, fun ⟨v, e, a⟩ => by rw [e]; exact a⟩) (fun u hu e => by omega)
theorem dst_right {s v : Nat} (hs : s < m) (hv : v < m) (h : n + m ≤ 12) : dst (bes n ts us) [s + n] (v + n) = dst us [s] v :=
  dst_emb (fun v => v + n) (fun _ _ _ _ e => by omega) hs (fun _ _ a => adj_lt w2 a) (fun u x _ => bes_right w w2 h) hv
theorem dst_right0 {s v : Nat} (hs : s < m) (hv : v < n) (h : n + m ≤ 12) : dst (bes n ts us) [s + n] v = none :=
  dst_out (ts := us) (fun v => v + n) hs (fun _ _ a => adj_lt w2 a) (fun u x _ => bes_right w w2 h) (fun u hu e => by omega)
end
end K08
end
section
namespace K08
open PySem PySem.Spec PyProof.Rows L2 DL
theorem len_of_ris {n : Nat} {ts : List (Nat × Nat)} (hn : n ≤ 12) (tie : ∀ p ∈ ts, p.1 < p.2 ∧ p.2 < n) (ris : ts.Pairwise tlt) : ts.length ≤ 144 := by
  have h1 : (ts.map fun p => p.1 * 12 + p.2).Pairwise (· < ·) := by
    rw [List.pairwise_map]
    refine List.Pairwise.imp_of_mem (R := tlt) (fun {p q} hp hq h => ?_) ris
    have := tie p hp
    have := tie q hq
    unfold tlt at h
    omega
  have := rise_len (a := 0) (b := 144) h1 fun x hx => by
    obtain ⟨p, hp, rfl⟩ := List.mem_map.mp hx
    have := tie p hp
    omega
  rw [List.length_map] at this
  omega
theorem gw_sort {L : List (Nat × Nat)} {n : Nat} (h1 : 1 ≤ n) (h2 : n ≤ 12) (tie : ∀ p ∈ L, p.1 < p.2 ∧ p.2 < n) (nd : L.Nodup) : GW n (L.mergeSort tle) := by
  have perm := List.mergeSort_perm L tle
  have sorted := List.pairwise_mergeSort (le := tle) (fun a b c h h' => by
    unfold tle at *
    simp only [decide_eq_true_eq] at *
    omega) (fun a b => by
    unfold tle
    simp only [Bool.or_eq_true, decide_eq_true_eq]
    omega) L
  have nd2 : (L.mergeSort tle).Nodup := perm.nodup_iff.mpr nd
  have tie2 : ∀ p ∈ L.mergeSort tle, p.1 < p.2 ∧ p.2 < n := fun p hp => tie p (perm.mem_iff.mp hp)
  have ris : (L.mergeSort tle).Pairwise tlt := (sorted.and nd2).imp fun {p q} ⟨h, hne⟩ => by
      unfold tle at h
      simp only [decide_eq_true_eq] at h
      unfold tlt
      obtain ⟨a, b⟩ := p
      obtain ⟨c, d⟩ := q
      simp only [ne_eq, Prod.mk.injEq] at hne
      show a < c ∨ (a = c ∧ b < d)
      simp only at h
      omega
  have := len_of_ris h2 tie2 ris
  exact ⟨h1, h2, tie2, ris, by omega⟩
theorem adj_sort {L : List (Nat × Nat)} {n : Nat} (w : GW n (L.mergeSort tle)) {u v : Nat} : adj (L.mergeSort tle) u v ↔ (u, v) ∈ L ∨ (v, u) ∈ L := by
  show v ∈ nb (L.mergeSort tle) u ↔ _
  rw [mem_nb w, (List.mergeSort_perm L tle).mem_iff, (List.mergeSort_perm L tle).mem_iff]
theorem adj_iff {ts : List (Nat × Nat)} {n : Nat} (w : GW n ts) {u v : Nat} : adj ts u v ↔ (u, v) ∈ ts ∨ (v, u) ∈ ts := mem_nb w
theorem nodup_ris {n : Nat} {ts : List (Nat × Nat)} (w : GW n ts) : ts.Nodup := w.ris.imp fun {p q} h e => by
  subst e
  unfold tlt at h
  omega
/-! ### one tie more -/
def mor (ts : List (Nat × Nat)) (a b : Nat) : List (Nat × Nat) := (ts ++ [(a, b)]).mergeSort tle
theorem gw_mor {n : Nat} {ts : List (Nat × Nat)} (w : GW n ts) {a b : Nat} (hab : a < b) (hb : b < n) (hn : (a, b) ∉ ts) : GW n (mor ts a b) := by
  refine gw_sort w.n1 w.n12 (fun p hp => ?_) ?_
  · rcases List.mem_append.mp hp with hp | hp
    · exact w.tie p hp
    · rw [List.mem_singleton] at hp
      subst hp
      exact ⟨hab, hb⟩
  · rw [List.nodup_append]
    refine ⟨nodup_ris w, by simp, fun p hp q hq e => ?_⟩
    rw [List.mem_singleton] at hq
    subst hq
    subst e
    exact hn hp
theorem adj_mor {n : Nat} {ts : List (Nat × Nat)} (w : GW n ts) {a b : Nat} (w2 : GW n (mor ts a b)) {u v : Nat} (h : adj ts u v) : adj (mor ts a b) u v := by
  rw [mor, adj_sort w2]
  rcases (adj_iff w).mp h with h | h
  · exact .inl (List.mem_append_left _ h)
  · exact .inr (List.mem_append_left _ h)
theorem ball_sub {A B : Nat → Nat → Prop} {src : Nat → Prop} (h : ∀ u v, A u v → B u v) {k v : Nat} (b : PG.ball A src k v) : PG.ball B src k v := by
  induction k generalizing v with
  | zero => exact b
  | succ k ih =>
    rcases b with b | ⟨u, b, a⟩
    · exact .inl (ih b)
    · exact .inr ⟨u, ih b, h u v a⟩
theorem dst_mor {n : Nat} {ts : List (Nat × Nat)} (w : GW n ts) {a b : Nat} (w2 : GW n (mor ts a b)) {l : List Nat} {v d : Nat} (e : dst ts l v = some d) : ∃ d', d' ≤ d ∧ dst (mor ts a b) l v = some d' := by
  obtain ⟨d', h⟩ := PG.exists_dist (ball_sub (fun u v => adj_mor w w2) (dst_some.mp e).1)
  exact ⟨d', h.2 _ (ball_sub (fun u v => adj_mor w w2) (dst_some.mp e).1), dst_some.mpr h⟩
/-! ### seats with other names -/
def ren1 (f : Nat → Nat) (p : Nat × Nat) : Nat × Nat := (min (f p.1) (f p.2), max (f p.1) (f p.2))
def ren (f : Nat → Nat) (ts : List (Nat × Nat)) : List (Nat × Nat) := (ts.map (ren1 f)).mergeSort tle
section
variable {n : Nat} {ts : List (Nat × Nat)} (w : GW n ts) {f : Nat → Nat} (inj : ∀ u v, u < n → v < n → f u = f v → u = v) (into : ∀ u, u < n → f u < n)
include w inj into
theorem gw_ren : GW n (ren f ts) := by
  refine gw_sort w.n1 w.n12 (fun p hp => ?_) ?_
  · obtain ⟨q, hq, rfl⟩ := List.mem_map.mp hp
    obtain ⟨h1, h2⟩ := w.tie q hq
    have a1 := into q.1 (by omega)
    have a2 := into q.2 h2
    have : f q.1 ≠ f q.2 := fun e => by
      have := inj q.1 q.2 (by omega) h2 e
      omega
    unfold ren1
    simp only
    omega
  · unfold List.Nodup
    rw [List.pairwise_map]
    refine List.Pairwise.imp_of_mem (fun {p q} hp hq h => ?_) (nodup_ris w)
    intro e
    apply h
    obtain ⟨h1, h2⟩ := w.tie p hp
    obtain ⟨h3, h4⟩ := w.tie q hq
    unfold ren1 at e
    rw [Prod.mk.injEq] at e
    have e' : (f p.1 = f q.1 ∧ f p.2 = f q.2) ∨ (f p.1 = f q.2 ∧ f p.2 = f q.1) := by omega
    rcases e' with ⟨x, y⟩ | ⟨x, y⟩
    · have := inj _ _ (by omega) (by omega) x
      have := inj _ _ (by omega) (by omega) y
      exact Prod.ext (by assumption) (by assumption)
    · have := inj _ _ (by omega) (by omega) x
      have := inj _ _ (by omega) (by omega) y
      omega
theorem adj_ren {u x : Nat} (hu : u < n) : adj (ren f ts) (f u) x ↔ ∃ v, x = f v ∧ adj ts u v := by
  have ee : ∀ v, adj ts u v ↔ (u, v) ∈ ts ∨ (v, u) ∈ ts := fun v => adj_iff w
  simp only [ee]
  rw [ren, adj_sort (gw_ren w inj into), List.mem_map, List.mem_map]
  constructor
  · have go : ∀ p : Nat × Nat, p ∈ ts → (ren1 f p = (f u, x) ∨ ren1 f p = (x, f u)) → ∃ v, x = f v ∧ ((u, v) ∈ ts ∨ (v, u) ∈ ts) := by
      rintro ⟨a, b⟩ hp e
      obtain ⟨h1, h2⟩ := w.tie _ hp
      simp only at h1 h2
      unfold ren1 at e
      simp only [Prod.mk.injEq] at e
      have e' : (f a = f u ∧ f b = x) ∨ (f a = x ∧ f b = f u) := by omega
      rcases e' with ⟨x1, y1⟩ | ⟨x1, y1⟩
      · have := inj _ _ (by omega) hu x1
        subst this
        exact ⟨b, y1.symm, .inl hp⟩
      · have := inj _ _ h2 hu y1
        subst this
        exact ⟨a, x1.symm, .inr hp⟩
    rintro (⟨p, hp, e⟩ | ⟨p, hp, e⟩)
    · exact go p hp (.inl e)
    · exact go p hp (.inr e)
  · have le_or : ∀ a b : Nat, (min a b, max a b) = (a, b) ∨ (min a b, max a b) = (b, a) := fun a b => by
      simp only [Prod.mk.injEq]
      omega
    rintro ⟨v, rfl, h | h⟩
    · rcases le_or (f u) (f v) with e | e
      · exact .inl ⟨(u, v), h, e⟩
      · exact .inr ⟨(u, v), h, e⟩
    · rcases le_or (f v) (f u) with e | e
      · exact .inr ⟨(v, u), h, e⟩
      · exact .inl ⟨(v, u), h, e⟩
theorem dst_ren {s v : Nat} (hs : s < n) (hv : v < n) : dst (ren f ts) [f s] (f v) = dst ts [s] v :=
  dst_emb f inj hs (fun _ _ a => adj_lt w a) (fun u x hu => adj_ren w inj into hu) hv
end
/-! ### a way of so many ties -/
theorem dst_self (ts : List (Nat × Nat)) (s : Nat) : dst ts [s] s = some 0 := dst_some.mpr ⟨by simp [PG.ball, inL], fun k _ => Nat.zero_le k⟩
section
variable {n : Nat} {ts : List (Nat × Nat)} (w : GW n ts)
include w
/-- along a tie steps differ by one at most -/
theorem dst_tie {u v o d : Nat} (a : adj ts u v) (e : dst ts [u] o = some d) : ∃ d', dst ts [v] o = some d' ∧ d' ≤ d + 1 := by
  have h := ball_front w (adj_sym w a) (dst_some.mp e).1
  obtain ⟨d', hd⟩ := PG.exists_dist h
  exact ⟨d', dst_some.mpr hd, hd.2 _ h⟩
theorem dst_zero {u o : Nat} (e : dst ts [u] o = some 0) : u = o := by
  have : o = u := by simpa [PG.ball, inL] using (dst_some.mp e).1
  exact this.symm
/-- a next seat that is one step nearer -/
theorem dst_nearer {u o d : Nat} (e : dst ts [u] o = some (d + 1)) : ∃ v, adj ts u v ∧ dst ts [v] o = some d := by
  have hb := ball_sym w (dst_some.mp e).1
  have hm := (dst_some.mp e).2
  rcases hb with hb | ⟨v, hb, a⟩
  · have := hm d (ball_sym w hb)
    omega
  · have hv := ball_sym w hb
    obtain ⟨d', hd⟩ := PG.exists_dist hv
    have h1 := hd.2 d hv
    have a' := adj_sym w a
    have h2 := hm (d' + 1) (ball_front w a' hd.1)
    have : d' = d := by omega
    subst this
    exact ⟨v, a', dst_some.mpr hd⟩
end
end K08
end
section
namespace K08
open PySem PySem.Spec PyProof.Rows L2 DL
theorem eCall2_ok {f : LF} {m m2 : DM D} {d e d' : D} {σ : Sl} {S S' S2 S3 : Sto} (h : m σ S = .ok d S') (h2 : m2 σ S' = .ok e S2) (hf : f [d, e] S2 = .ok d' S3) : eCall f (lCons m (lCons m2 lNil)) σ S = .ok d' S3 := by
  rw [eCall_app, lCons_app, h, Out.bind_ok, lCons_app, h2]; exact hf
theorem eTup2_ok {m m2 : DM D} {x y : PyData} {σ : Sl} {S S' S2 : Sto} (h : m σ S = .ok (.pd x) S') (h2 : m2 σ S' = .ok (.pd y) S2) : eTup (lCons m (lCons m2 lNil)) σ S = .ok (.tup [x, y]) S2 := by
  rw [eTup_app, lCons_app, h, Out.bind_ok, lCons_app, h2]
  exact mkTup2 x y σ S2
theorem web0 {n : Nat} {ts : List (Nat × Nat)} {m : DM D} {σ : Sl} {S : Sto} (h : m σ S = .ok (.pd (webD n ts)) S) : eOp opIx m (eK (.int 0)) σ S = .ok (.int n) S := by
  simp only [Out.bind_ok, mBind_app, mRet_app, eVar_0, eVar_1, eVar_2, eVar_3, eVar_4, eVar_5, eVar_6, eVar_7, eVar_8, eVar_9, eVar_10, eK_app, eOp_app, asB_bl, eTest_app, tru_bl, eTru_app, eChain_app, bNot_app, bAnd_app, bOr_app, eNot_app, eAnd_app, eOr_app, eIf_app, eUn_app, lNil_app, lCons_app, eTup_app, eLst_app, eLstM_app, eCall_app, eSlice_app, asI_int, eMeth_app, sNext_app, sNever_app, sBrk_app, sCont_app, sSeq_app, sSet_app, sExpr_app, sRet_app, sRetN_app, sIf_app, sAsg_app, eRg1_app, eIsI_app, opAdd_int, opSub_int, opCmpI_int, opLt_int, opEq_int, tgName_app, tgNil_app, tgCons_app, tgTup_app, clr_nil', clr_cons', ofO_some, opIx_tup0, opIx_tup1, fLen_tup, fLen_lst, fTuple_lst, startD, isTy, List.map_cons, List.map_nil, List.length_cons, List.length_nil, List.cons_append, List.nil_append, List.replicate, Nat.reduceAdd, Nat.reduceSub, List.set_cons_zero, List.set_cons_succ, reduceIte, eq_self, Bool.false_eq_true, Bool.not_true, Bool.not_false, Option.bind_some, Bool.xor_false, Bool.xor_true, decide_true, decide_false, h]
theorem web1 {n : Nat} {ts : List (Nat × Nat)} {m : DM D} {σ : Sl} {S : Sto} (h : m σ S = .ok (.pd (webD n ts)) S) : eOp opIx m (eK (.int 1)) σ S = .ok (.tup (ts.map tieD)) S := by
  simp only [Out.bind_ok, mBind_app, mRet_app, eVar_0, eVar_1, eVar_2, eVar_3, eVar_4, eVar_5, eVar_6, eVar_7, eVar_8, eVar_9, eVar_10, eK_app, eOp_app, asB_bl, eTest_app, tru_bl, eTru_app, eChain_app, bNot_app, bAnd_app, bOr_app, eNot_app, eAnd_app, eOr_app, eIf_app, eUn_app, lNil_app, lCons_app, eTup_app, eLst_app, eLstM_app, eCall_app, eSlice_app, asI_int, eMeth_app, sNext_app, sNever_app, sBrk_app, sCont_app, sSeq_app, sSet_app, sExpr_app, sRet_app, sRetN_app, sIf_app, sAsg_app, eRg1_app, eIsI_app, opAdd_int, opSub_int, opCmpI_int, opLt_int, opEq_int, tgName_app, tgNil_app, tgCons_app, tgTup_app, clr_nil', clr_cons', ofO_some, opIx_tup0, opIx_tup1, fLen_tup, fLen_lst, fTuple_lst, startD, isTy, List.map_cons, List.map_nil, List.length_cons, List.length_nil, List.cons_append, List.nil_append, List.replicate, Nat.reduceAdd, Nat.reduceSub, List.set_cons_zero, List.set_cons_succ, reduceIte, eq_self, Bool.false_eq_true, Bool.not_true, Bool.not_false, Option.bind_some, Bool.xor_false, Bool.xor_true, decide_true, decide_false, h]
theorem opAdd_tup {xs ys : List PyData} (h : xs.length + ys.length ≤ sizeLine) (S : Sto) : opAdd (.tup xs) (.tup ys) S = .ok (.tup (xs ++ ys)) S := if_pos h
theorem opAdd_nat (a b : Nat) (S : Sto) : opAdd (.int a) (.int b) S = .ok (.int (a + b : Nat)) S := by
  show Out.ok (D.int ((a : Int) + (b : Int))) S = _
  rw [Int.natCast_add]
theorem fMin_nat (a b : Nat) (S : Sto) : fMin2 [.int a, .int b] S = .ok (.int (min a b : Nat)) S := by
  show Out.ok (D.int (if (b : Int) < (a : Int) then (b : Int) else (a : Int))) S = _
  by_cases h : b < a
  · rw [if_pos (by omega), Nat.min_eq_right (by omega)]
  · rw [if_neg (by omega), Nat.min_eq_left (by omega)]
theorem fMax_nat (a b : Nat) (S : Sto) : fMax2 [.int a, .int b] S = .ok (.int (max a b : Nat)) S := by
  show Out.ok (D.int (if (b : Int) > (a : Int) then (b : Int) else (a : Int))) S = _
  by_cases h : a < b
  · rw [if_pos (by omega), Nat.max_eq_right (by omega)]
  · rw [if_neg (by omega), Nat.max_eq_left (by omega)]
theorem sorted_tiesL (L : List (Nat × Nat)) (S : Sto) : fSorted [.lst (L.map tieD)] S = .ok (.lst ((L.mergeSort tle).map tieD)) S := by
  have e : asQ S (.lst (L.map tieD)) = some ((L.map tieD).map D.pd) := by
    unfold asQ asL
    rfl
  unfold fSorted
  simp only [e, pdL_map, sortOk_ties, if_true, sortD_ties]
theorem put_beside_ok {n m : Nat} {ts us : List (Nat × Nat)} (w : GW n ts) (w2 : GW m us) : f__law_put_beside [.pd (webD n ts), .pd (webD m us)] [] = .ok (.pd (webD (n + m) (bes n ts us))) [] := by
  refine runF_pure (S' := []) ?_
  have l1 := w.len
  have l2 := w2.len
  have e1 : eLc [2, 3] (iSeq (eOp opIx (eVar 1) (eK (.int 1)))) (tgTup (tgCons (tgName 2) (tgCons (tgName 3) tgNil))) (mRet true) q_law_put_beside_e1 [some (.pd (webD n ts)), some (.pd (webD m us)), none, none] [] = .ok (.lst (us.map fun p => tieD (shift n p))) [] := by
    refine eLc_all (gu := .no) us (fun p => D.pd (tieD p)) (fun p => tieD (shift n p)) ((iSeq_tup (xs := us.map tieD) (by simp only [Out.bind_ok, mBind_app, mRet_app, eVar_0, eVar_1, eVar_2, eVar_3, eVar_4, eVar_5, eVar_6, eVar_7, eVar_8, eVar_9, eVar_10, eK_app, eOp_app, asB_bl, eTest_app, tru_bl, eTru_app, eChain_app, bNot_app, bAnd_app, bOr_app, eNot_app, eAnd_app, eOr_app, eIf_app, eUn_app, lNil_app, lCons_app, eTup_app, eLst_app, eLstM_app, eCall_app, eSlice_app, asI_int, eMeth_app, sNext_app, sNever_app, sBrk_app, sCont_app, sSeq_app, sSet_app, sExpr_app, sRet_app, sRetN_app, sIf_app, sAsg_app, eRg1_app, eIsI_app, opAdd_int, opSub_int, opCmpI_int, opLt_int, opEq_int, tgName_app, tgNil_app, tgCons_app, tgTup_app, clr_nil', clr_cons', ofO_some, opIx_tup0, opIx_tup1, fLen_tup, fLen_lst, fTuple_lst, startD, isTy, List.map_cons, List.map_nil, List.length_cons, List.length_nil, List.cons_append, List.nil_append, List.replicate, Nat.reduceAdd, Nat.reduceSub, List.set_cons_zero, List.set_cons_succ, reduceIte, eq_self, Bool.false_eq_true, Bool.not_true, Bool.not_false, Option.bind_some, Bool.xor_false, Bool.xor_true, decide_true, decide_false])).trans (by rw [List.map_map]; rfl)) (by exact trivial) (fun p hp => ⟨[some (.pd (webD n ts)), some (.pd (webD m us)), some (.int p.1), some (.int p.2)], rfl, ?_⟩) (le_size (by omega))
    unfold q_law_put_beside_e1
    exact eTup2_ok (x := .int (p.1 + n : Nat)) (y := .int (p.2 + n : Nat)) (eOp_ok (d := .int p.1) (e := .int n) rfl (web0 rfl) (opAdd_nat _ _ _)) (eOp_ok (d := .int p.2) (e := .int n) rfl (web0 rfl) (opAdd_nat _ _ _))
  show m__law_put_beside [some (.pd (webD n ts)), some (.pd (webD m us)), none, none] [] = _
  unfold m__law_put_beside
  refine sRet_ok (eTup2_ok (x := .int (n + m : Nat)) (y := .tuple ((bes n ts us).map tieD)) (S' := []) (eOp_ok (d := .int n) (e := .int m) (web0 rfl) (web0 rfl) (opAdd_nat _ _ _)) ?_)
  refine eOp_ok (d := .tup (ts.map tieD)) (S' := []) (web1 rfl) (eCall1_ok e1 (fTuple_lst _)) ?_
  rw [opAdd_tup (le_size (by rw [List.length_map, List.length_map]; omega))]
  unfold bes
  rw [List.map_append, List.map_map]
  rfl
theorem at_names {names : List Nat} {i : Nat} (h : i < names.length) (S : Sto) : opIx (.lst (names.map nD)) (.int i) S = .ok (.int (names.getD i 0 : Nat)) S := by
  refine opIx_lstN ?_
  rw [List.getElem?_map, List.getElem?_eq_getElem h, List.getD_eq_getElem?_getD, List.getElem?_eq_getElem h]
  rfl
theorem renamed_ok {n : Nat} {ts : List (Nat × Nat)} (w : GW n ts) {names : List Nat} (hl : names.length = n) : f__law_renamed [.pd (webD n ts), .lst (names.map nD)] [] = .ok (.pd (webD n (ren (fun i => names.getD i 0) ts))) [] := by
  refine runF_pure (S' := []) ?_
  have l1 := w.len
  have e1 : eLc [2, 3] (iSeq (eOp opIx (eVar 0) (eK (.int 1)))) (tgTup (tgCons (tgName 2) (tgCons (tgName 3) tgNil))) (mRet true) q_law_renamed_e1 [some (.pd (webD n ts)), some (.lst (names.map nD)), none, none] [] = .ok (.lst (ts.map fun p => tieD (ren1 (fun i => names.getD i 0) p))) [] := by
    refine eLc_all (gu := .no) ts (fun p => D.pd (tieD p)) (fun p => tieD (ren1 (fun i => names.getD i 0) p)) ((iSeq_tup (xs := ts.map tieD) (by simp only [Out.bind_ok, mBind_app, mRet_app, eVar_0, eVar_1, eVar_2, eVar_3, eVar_4, eVar_5, eVar_6, eVar_7, eVar_8, eVar_9, eVar_10, eK_app, eOp_app, asB_bl, eTest_app, tru_bl, eTru_app, eChain_app, bNot_app, bAnd_app, bOr_app, eNot_app, eAnd_app, eOr_app, eIf_app, eUn_app, lNil_app, lCons_app, eTup_app, eLst_app, eLstM_app, eCall_app, eSlice_app, asI_int, eMeth_app, sNext_app, sNever_app, sBrk_app, sCont_app, sSeq_app, sSet_app, sExpr_app, sRet_app, sRetN_app, sIf_app, sAsg_app, eRg1_app, eIsI_app, opAdd_int, opSub_int, opCmpI_int, opLt_int, opEq_int, tgName_app, tgNil_app, tgCons_app, tgTup_app, clr_nil', clr_cons', ofO_some, opIx_tup0, opIx_tup1, fLen_tup, fLen_lst, fTuple_lst, startD, isTy, List.map_cons, List.map_nil, List.length_cons, List.length_nil, List.cons_append, List.nil_append, List.replicate, Nat.reduceAdd, Nat.reduceSub, List.set_cons_zero, List.set_cons_succ, reduceIte, eq_self, Bool.false_eq_true, Bool.not_true, Bool.not_false, Option.bind_some, Bool.xor_false, Bool.xor_true, decide_true, decide_false])).trans (by rw [List.map_map]; rfl)) (by exact trivial) (fun p hp => ⟨[some (.pd (webD n ts)), some (.lst (names.map nD)), some (.int p.1), some (.int p.2)], rfl, ?_⟩) (le_size (by omega))
    have hp := w.tie p hp
    unfold q_law_renamed_e1
    have a1 := fun S => at_names (names := names) (i := p.1) (by omega) S
    have a2 := fun S => at_names (names := names) (i := p.2) (by omega) S
    exact eTup2_ok (x := .int (min (names.getD p.1 0) (names.getD p.2 0) : Nat)) (y := .int (max (names.getD p.1 0) (names.getD p.2 0) : Nat)) (S' := [])
      (eCall2_ok (d := .int (names.getD p.1 0 : Nat)) (e := .int (names.getD p.2 0 : Nat)) (eOp_ok (d := .lst (names.map nD)) (e := .int p.1) rfl rfl (a1 _)) (eOp_ok (d := .lst (names.map nD)) (e := .int p.2) rfl rfl (a2 _)) (fMin_nat _ _ _))
      (eCall2_ok (d := .int (names.getD p.1 0 : Nat)) (e := .int (names.getD p.2 0 : Nat)) (eOp_ok (d := .lst (names.map nD)) (e := .int p.1) rfl rfl (a1 _)) (eOp_ok (d := .lst (names.map nD)) (e := .int p.2) rfl rfl (a2 _)) (fMax_nat _ _ _))
  have e2 : (.lst (ts.map fun p => tieD (ren1 (fun i => names.getD i 0) p)) : D) = .lst ((ts.map (ren1 fun i => names.getD i 0)).map tieD) := by rw [List.map_map]; rfl
  rw [e2] at e1
  show m__law_renamed [some (.pd (webD n ts)), some (.lst (names.map nD)), none, none] [] = _
  unfold m__law_renamed
  exact sRet_ok (eTup2_ok (x := .int n) (y := .tuple ((ren (fun i => names.getD i 0) ts).map tieD)) (S' := []) (web0 rfl) (eCall1_ok (eCall1_ok e1 (sorted_tiesL _ _)) (fTuple_lst _)))
end K08
end
section
namespace K08
open PySem PySem.Spec PyProof.Rows L2 DL
theorem okEq_opt (o : Option Nat) : okEq (optD o) = true := by cases o <;> rfl
theorem eq_opt (ne : Bool) (o : Option Nat) (k : Nat) (S : Sto) : opEq ne (.pd (optD o)) (.int k) S = .ok (.bl (decide (o = some k) ^^ ne)) S := by
  cases o with
  | none =>
    show opEq ne .non (.int k) S = _
    rw [opEq_ex ne rfl rfl]
    have : PyData.eqv .none (.int (k : Int)) = false := by simp [PyData.eqv]
    rw [this]
    rfl
  | some d =>
    show opEq ne (.int d) (.int k) S = _
    rw [opEq_int]
    have : decide ((d : Int) = (k : Int)) = decide (some d = some k) := decide_eq_decide.mpr (by rw [Option.some.injEq]; omega)
    rw [this]
theorem is_none (ne : Bool) (o : Option Nat) (S : Sto) : opIs ne (.pd (optD o)) .non S = .ok (.bl (o.isNone ^^ ne)) S := by
  cases o <;> cases ne <;> rfl
theorem eq_empty {L : List Nat} (h : L ≠ []) (S : Sto) : opEq false (.lst (L.map nD)) (.lst []) S = .ok (.bl false) S := by
  refine (opEq_ex (S := S) false (okEq_flat nD nD_flat L).1 (okEq_flat nD nD_flat []).1).trans ?_
  cases L with
  | nil => exact absurd rfl h
  | cons x r =>
    have : PyData.eqv (.list ((x :: r).map nD)) (.list ([].map nD)) = false := by simp [PyData.eqv, PyData.eqvAll]
    rw [this]
    rfl
noncomputable abbrev wrSl (n : Nat) (ts : List (Nat × Nat)) (s o : Nat) (x3 x4 x5 x6 x7 : Option D) : Sl := [some (.pd (webD n ts)), some (.int s), some (.int o), x3, x4, x5, x6, x7]
section
variable {n : Nat} {ts : List (Nat × Nat)} (w : GW n ts) {s o : Nat} (hs : s < n) (ho : o < n)
include w hs ho
theorem way_turn {h d : Nat} (hh : h < n) (e : dst ts [h] o = some (d + 1)) {j D0 : Nat} (hj : D0 = j + (d + 1)) : ∃ h2 L, h2 < n ∧ dst ts [h2] o = some d ∧
    q_law_way_right_b6 (wrSl n ts s o (some (.int D0)) (some (.int h)) (some (.int j)) none none) [] = .ok (.next (wrSl n ts s o (some (.int D0)) (some (.int h2)) (some (.int j)) (some (.lst L)) none)) [] := by
  have hn := w.n12
  have hk : ((D0 : Int) - (j : Int)) - 1 = (d : Nat) := by omega
  let A : Sl := wrSl n ts s o (some (.int D0)) (some (.int h)) (some (.int j)) none none
  have hN := fun σ S => callF_pd (n := 2) (neighbours_ok w hh) rfl rfl rfl rfl σ S
  have hL := nb_len w.len h
  let P : Nat → Bool := fun v => decide (dst ts [v] o = some d)
  have hst : ∀ v, v ∈ nb ts h → ∀ σ S, callF 3 f_steps [.pd (webD n ts), .int v, .int o] σ S = .ok (.pd (optD (dst ts [v] o))) S := fun v hv σ S => callF_pd (n := 3) (steps_ok w (adj_lt w hv) ho) rfl rfl rfl (by cases dst ts [v] o <;> rfl) σ S
  have it : ∀ x6, iSeq (mBind (lCons (eVar 0) (lCons (eVar 4) lNil)) (callF 2 f_neighbours)) (wrSl n ts s o (some (.int D0)) (some (.int h)) (some (.int j)) x6 none) [] = .ok ⟨(nb ts h).map fun v => D.pd (nD v), .no⟩ [] := fun x6 =>
    (iSeq_tup (xs := (nb ts h).map nD) (call2_ok (d := .pd (webD n ts)) (e := .int h) rfl rfl (hN _ _))).trans (by rw [List.map_map]; rfl)
  have sub : ∀ (σ : Sl), σ[3]? = some (some (.int D0)) → σ[5]? = some (some (.int j)) → eOp opSub (eOp opSub (eVar 3) (eVar 5)) (eK (.int 1)) σ [] = .ok (.int d) [] := fun σ h3 h5 => by
    refine eOp_ok (d := .int ((D0 : Int) - j)) (e := .int 1) (S' := []) (S2 := []) (eOp_ok (d := .int D0) (e := .int j) (S' := []) (S2 := []) (by unfold eVar; simp [h3]) (by unfold eVar; simp [h5]) rfl) rfl ?_
    show Out.ok (D.int ((D0 : Int) - j - 1)) ([] : Sto) = _
    rw [hk]
  have e1 : mBind (lcAll [7] (iSeq (mBind (lCons (eVar 0) (lCons (eVar 4) lNil)) (callF 2 f_neighbours))) (tgName 7) q_law_way_right_t3 q_law_way_right_e4) mkF A [] = .ok (.lst (((nb ts h).filter P).map nD)) [] := by
    show eLc [7] _ _ _ _ _ _ = _
    refine eLc_map (gu := .no) (nb ts h) (fun v => D.pd (nD v)) P nD (it none) (by exact trivial) (fun v hv => ⟨wrSl n ts s o (some (.int D0)) (some (.int h)) (some (.int j)) none (some (.int v)), rfl, ?_, fun _ => rfl⟩) (le_size (by omega))
    unfold q_law_way_right_t3
    rw [eTest_app, eOp_ok (op := opEq false) (S' := []) (S2 := []) (d := .pd (optD (dst ts [v] o))) (e := .int d) (call3_ok (d := .pd (webD n ts)) (e := .int v) (e3 := .int o) rfl rfl rfl (hst v hv _ _)) (sub _ rfl rfl) (eq_opt false _ _ _)]
    simp only [P, Out.bind_ok, mBind_app, mRet_app, eVar_0, eVar_1, eVar_2, eVar_3, eVar_4, eVar_5, eVar_6, eVar_7, eVar_8, eVar_9, eVar_10, eK_app, eOp_app, asB_bl, eTest_app, tru_bl, eTru_app, eChain_app, bNot_app, bAnd_app, bOr_app, eNot_app, eAnd_app, eOr_app, eIf_app, eUn_app, lNil_app, lCons_app, eTup_app, eLst_app, eLstM_app, eCall_app, eSlice_app, asI_int, eMeth_app, sNext_app, sNever_app, sBrk_app, sCont_app, sSeq_app, sSet_app, sExpr_app, sRet_app, sRetN_app, sIf_app, sAsg_app, eRg1_app, eIsI_app, opAdd_int, opSub_int, opCmpI_int, opLt_int, opEq_int, tgName_app, tgNil_app, tgCons_app, tgTup_app, clr_nil', clr_cons', ofO_some, opIx_tup0, opIx_tup1, fLen_tup, fLen_lst, fTuple_lst, startD, isTy, List.map_cons, List.map_nil, List.length_cons, List.length_nil, List.cons_append, List.nil_append, List.replicate, Nat.reduceAdd, Nat.reduceSub, List.set_cons_zero, List.set_cons_succ, reduceIte, eq_self, Bool.false_eq_true, Bool.not_true, Bool.not_false, Option.bind_some, Bool.xor_false, Bool.xor_true, decide_true, decide_false]
  obtain ⟨v0, a0, e0⟩ := dst_nearer w e
  have hne : (nb ts h).filter P ≠ [] := List.ne_nil_of_mem (List.mem_filter.mpr ⟨a0, by simp only [P, e0, decide_true]⟩)
  obtain ⟨h2, R, eR⟩ := List.exists_cons_of_ne_nil hne
  have hm : h2 ∈ (nb ts h).filter P := by rw [eR]; exact List.mem_cons_self
  rw [List.mem_filter] at hm
  have ed : dst ts [h2] o = some d := by simpa [P] using hm.2
  let B : Sl := wrSl n ts s o (some (.int D0)) (some (.int h)) (some (.int j)) (some (.lst (((nb ts h).filter P).map nD))) none
  have e2 : sIf (eTest (eOp (opEq false) (eVar 6) (eLst lNil))) (sRet (eK (.bl false))) sNext B [] = .ok (.next B) [] := by
    rw [sIf_app, eTest_app, eOp_ok (op := opEq false) (S' := []) (S2 := []) (d := .lst (((nb ts h).filter P).map nD)) (e := .lst []) rfl rfl (eq_empty hne _)]
    rfl
  have hall : ∀ v, v ∈ nb ts h → ∃ d', dst ts [v] o = some d' ∧ d ≤ d' := fun v hv => by
    obtain ⟨d', e', _⟩ := dst_tie w hv e
    obtain ⟨d2, e2, h2⟩ := dst_tie w (adj_sym w hv) e'
    rw [e] at e2
    cases e2
    exact ⟨d', e', by omega⟩
  have e3 : eLc [7] (iSeq (mBind (lCons (eVar 0) (lCons (eVar 4) lNil)) (callF 2 f_neighbours))) (tgName 7) (mRet true) q_law_way_right_e5 B [] = .ok (.lst (((nb ts h).map fun v => (dst ts [v] o).getD 0).map nD)) [] := by
    rw [List.map_map]
    refine eLc_all (gu := .no) (nb ts h) (fun v => D.pd (nD v)) (fun v => nD ((dst ts [v] o).getD 0)) (it _) (by exact trivial) (fun v hv => ⟨wrSl n ts s o (some (.int D0)) (some (.int h)) (some (.int j)) (some (.lst (((nb ts h).filter P).map nD))) (some (.int v)), rfl, ?_⟩) (le_size (by omega))
    unfold q_law_way_right_e5
    have := call3_ok (m := eVar 0) (m2 := eVar 7) (m3 := eVar 2) (σ := wrSl n ts s o (some (.int D0)) (some (.int h)) (some (.int j)) (some (.lst (((nb ts h).filter P).map nD))) (some (.int v))) (S := []) (S' := []) (S2 := []) (S3 := []) (d := .pd (webD n ts)) (e := .int v) (e3 := .int o) rfl rfl rfl (hst v hv _ _)
    obtain ⟨d', e', _⟩ := hall v hv
    rw [e'] at this ⊢
    exact this
  have hne2 : ((nb ts h).map fun v => (dst ts [v] o).getD 0) ≠ [] := List.ne_nil_of_mem (List.mem_map.mpr ⟨v0, a0, rfl⟩)
  obtain ⟨m, hm2, _, em⟩ := fMin1_nat hne2 []
  have e4 : sIf (eTest (eOp opLt (eCall fMin1 (lCons (eLc [7] (iSeq (mBind (lCons (eVar 0) (lCons (eVar 4) lNil)) (callF 2 f_neighbours))) (tgName 7) (mRet true) q_law_way_right_e5) lNil)) (eOp opSub (eOp opSub (eVar 3) (eVar 5)) (eK (.int 1))))) (sRet (eK (.bl false))) sNext B [] = .ok (.next B) [] := by
    obtain ⟨v, hv, rfl⟩ := List.mem_map.mp hm2
    obtain ⟨d', e', hd⟩ := hall v hv
    rw [e'] at em
    rw [sIf_app, eTest_app, eOp_ok (op := opLt) (S' := []) (S2 := []) (d := .int (d' : Nat)) (e := .int d) (eCall1_ok e3 em) (sub _ rfl rfl) (opLt_int _ _ (S := []))]
    rw [decide_eq_false (by omega)]
    rfl
  refine ⟨h2, ((nb ts h).filter P).map nD, adj_lt w hm.1, ed, ?_⟩
  unfold q_law_way_right_b6
  refine (sSeq_next (sSet_ok e1)).trans ?_
  refine (sSeq_next e2).trans ?_
  refine (sSeq_next e4).trans ?_
  refine (sSet_ok (d := .int h2) (eOp_ok (d := .lst (((nb ts h).filter P).map nD)) (e := .int 0) (S' := []) (S2 := []) rfl rfl ?_)).trans rfl
  rw [eR]
  exact opIx_lstN (i := 0) rfl
end
end K08
end
section
namespace K08
open PySem PySem.Spec PyProof.Rows L2 DL
section
variable {n : Nat} {ts : List (Nat × Nat)} (w : GW n ts) {s o : Nat} (hs : s < n) (ho : o < n)
include w hs ho
theorem way_loop {D0 : Nat} (e : dst ts [s] o = some D0) : sFor [5, 6] (iRange1 (lCons (eVar 3) lNil)) (tgName 5) q_law_way_right_b6 (wrSl n ts s o (some (.int D0)) (some (.int s)) none none none) [] = .ok (.next (wrSl n ts s o (some (.int D0)) (some (.int o)) none none none)) [] := by
  have hn := w.n12
  have hd : D0 ≤ n := dst_le w (one_ok hs).2.1 e
  have h : Sat (sFor [5, 6] (iRange1 (lCons (eVar 3) lNil)) (tgName 5) q_law_way_right_b6 (wrSl n ts s o (some (.int D0)) (some (.int s)) none none none) []) fun f S' => f = .next (wrSl n ts s o (some (.int D0)) (some (.int o)) none none none) ∧ S' = [] := by
    rw [sFor_app, iRange1_nat (n := D0) (by simp only [Out.bind_ok, mBind_app, mRet_app, eVar_0, eVar_1, eVar_2, eVar_3, eVar_4, eVar_5, eVar_6, eVar_7, eVar_8, eVar_9, eVar_10, eK_app, eOp_app, asB_bl, eTest_app, tru_bl, eTru_app, eChain_app, bNot_app, bAnd_app, bOr_app, eNot_app, eAnd_app, eOr_app, eIf_app, eUn_app, lNil_app, lCons_app, eTup_app, eLst_app, eLstM_app, eCall_app, eSlice_app, asI_int, eMeth_app, sNext_app, sNever_app, sBrk_app, sCont_app, sSeq_app, sSet_app, sExpr_app, sRet_app, sRetN_app, sIf_app, sAsg_app, eRg1_app, eIsI_app, opAdd_int, opSub_int, opCmpI_int, opLt_int, opEq_int, tgName_app, tgNil_app, tgCons_app, tgTup_app, clr_nil', clr_cons', ofO_some, opIx_tup0, opIx_tup1, fLen_tup, fLen_lst, fTuple_lst, startD, isTy, List.map_cons, List.map_nil, List.length_cons, List.length_nil, List.cons_append, List.nil_append, List.replicate, Nat.reduceAdd, Nat.reduceSub, List.set_cons_zero, List.set_cons_succ, reduceIte, eq_self, Bool.false_eq_true, Bool.not_true, Bool.not_false, Option.bind_some, Bool.xor_false, Bool.xor_true, decide_true, decide_false]) (by omega)]
    refine forGo_range D0 (fun j σ S => ∃ h, h < n ∧ dst ts [h] o = some (D0 - j) ∧ σ = wrSl n ts s o (some (.int D0)) (some (.int h)) none none none ∧ S = []) ?_ ?_ ⟨s, hs, e, rfl, rfl⟩
    · rintro j σ S hj ⟨h, hh, eh, rfl, rfl⟩
      obtain ⟨d, hd'⟩ : ∃ d, D0 - j = d + 1 := ⟨D0 - j - 1, by omega⟩
      rw [hd'] at eh
      obtain ⟨h2, L, hh2, e2, et⟩ := way_turn w hs ho hh eh (j := j) (D0 := D0) (by omega)
      refine ⟨_, _, et, h2, hh2, ?_, rfl, rfl⟩
      rw [e2]
      congr 1
      omega
    · rintro σ S ⟨h, hh, eh, rfl, rfl⟩
      rw [Nat.sub_self] at eh
      rw [dst_zero w eh]
      exact ⟨rfl, rfl⟩
  obtain ⟨f, S', e, rfl, rfl⟩ := h
  exact e
theorem way_right_ok : f__law_way_right [.pd (webD n ts), .int s, .int o] [] = .ok (.bl true) [] := by
  have hn := w.n12
  refine runF_pure (S' := []) ?_
  have hS := fun σ S => callF_pd (n := 3) (steps_ok w hs ho) rfl rfl rfl (by cases dst ts [s] o <;> rfl) σ S
  show m__law_way_right (wrSl n ts s o none none none none none) [] = _
  unfold m__law_way_right
  refine (sSeq_next (sSet_ok (call3_ok (d := .pd (webD n ts)) (e := .int s) (e3 := .int o) rfl rfl rfl (hS _ _)))).trans ?_
  have ei : eTest (eOp (opIs false) (eVar 3) (eK .non)) (wrSl n ts s o (some (.pd (optD (dst ts [s] o)))) none none none none) [] = .ok ((dst ts [s] o).isNone ^^ false) [] := by
    rw [eTest_app, eOp_ok (op := opIs false) (S' := []) (S2 := []) (d := .pd (optD (dst ts [s] o))) (e := .non) rfl rfl (is_none false _ _)]
    rfl
  cases e : dst ts [s] o with
  | none =>
    rw [e] at ei
    have hN := fun σ S => callF_pd (n := 2) (neighbours_ok w hs) rfl rfl rfl rfl σ S
    have hL := nb_len w.len s
    have e1 : eLc [7] (iSeq (mBind (lCons (eVar 0) (lCons (eVar 1) lNil)) (callF 2 f_neighbours))) (tgName 7) q_law_way_right_t1 q_law_way_right_e2 (wrSl n ts s o (some .non) none none none none) [] = .ok (.lst (((nb ts s).filter fun _ => false).map nD)) [] := by
      refine eLc_map (gu := .no) (nb ts s) (fun v => D.pd (nD v)) (fun _ => false) nD ((iSeq_tup (xs := (nb ts s).map nD) (call2_ok (d := .pd (webD n ts)) (e := .int s) rfl rfl (hN _ _))).trans (by rw [List.map_map]; rfl)) (by exact trivial) (fun v hv => ⟨wrSl n ts s o (some .non) none none none (some (.int v)), rfl, ?_, fun h => absurd h Bool.false_ne_true⟩) (le_size (by omega))
      have ev : dst ts [v] o = none := by
        cases e' : dst ts [v] o with
        | none => rfl
        | some d =>
          obtain ⟨d', e2, _⟩ := dst_tie w (adj_sym w hv) e'
          rw [e] at e2
          cases e2
      have hv' := fun σ S => callF_pd (n := 3) (steps_ok w (adj_lt w hv) ho) rfl rfl rfl (by cases dst ts [v] o <;> rfl) σ S
      rw [ev] at hv'
      unfold q_law_way_right_t1
      rw [eTest_app, eOp_ok (op := opIs true) (S' := []) (S2 := []) (d := .pd (optD none)) (e := .non) (call3_ok (d := .pd (webD n ts)) (e := .int v) (e3 := .int o) rfl rfl rfl (hv' _ _)) rfl (is_none true none _)]
      rfl
    rw [List.filter_eq_nil_iff.mpr (fun _ _ => Bool.false_ne_true)] at e1
    have e2 : sIf (eTest (eOp (opIs false) (eVar 3) (eK .non))) (sRet (eOp (opEq false) (eLc [7] (iSeq (mBind (lCons (eVar 0) (lCons (eVar 1) lNil)) (callF 2 f_neighbours))) (tgName 7) q_law_way_right_t1 q_law_way_right_e2) (eLst lNil))) sNext (wrSl n ts s o (some .non) none none none none) [] = .ok (.ret (.bl true)) [] := by
      rw [sIf_app]
      refine (congrArg (fun z : Out Bool => z.bind _) ei).trans ?_
      rw [Out.bind_ok, if_pos (show ((none : Option Nat).isNone ^^ false) = true from rfl)]
      exact sRet_ok (eOp_ok (d := .lst []) (e := .lst []) (S' := []) (S2 := []) e1 rfl (eqFlatL false nD nD_flat nD_refl [] []))
    show sSeq _ _ (wrSl n ts s o (some .non) none none none none) [] = _
    rw [sSeq_app, e2]
    rfl
  | some D0 =>
    rw [e] at ei
    have e2 : sIf (eTest (eOp (opIs false) (eVar 3) (eK .non))) (sRet (eOp (opEq false) (eLc [7] (iSeq (mBind (lCons (eVar 0) (lCons (eVar 1) lNil)) (callF 2 f_neighbours))) (tgName 7) q_law_way_right_t1 q_law_way_right_e2) (eLst lNil))) sNext (wrSl n ts s o (some (.int D0)) none none none none) [] = .ok (.next (wrSl n ts s o (some (.int D0)) none none none none)) [] := by
      rw [sIf_app]
      refine (congrArg (fun z : Out Bool => z.bind _) ei).trans ?_
      rw [Out.bind_ok, if_neg (show ¬ ((some D0).isNone ^^ false) = true from Bool.false_ne_true)]
      rfl
    refine (sSeq_next e2).trans ?_
    refine (sSeq_next (sSet_ok (d := .int s) rfl)).trans ?_
    refine (sSeq_next (way_loop w hs ho e)).trans ?_
    refine sRet_ok (eOp_ok (d := .int o) (e := .int o) (S' := []) (S2 := []) rfl rfl ?_)
    rw [opEq_int]
    simp
end
end K08
end
section
namespace K08
open PySem PySem.Spec PyProof.Rows L2 DL
theorem inj_nodup {f : Nat → Nat} {n : Nat} (inj : ∀ u v, u < n → v < n → f u = f v → u = v) : ∀ {l : List Nat}, l.Nodup → (∀ v ∈ l, v < n) → (l.map f).Nodup
  | [], _, _ => .nil
  | x :: r, h, hl => by
    rw [List.nodup_cons] at h
    rw [List.map_cons, List.nodup_cons]
    refine ⟨fun hm => ?_, inj_nodup inj h.2 fun v hv => hl v (List.mem_cons_of_mem _ hv)⟩
    obtain ⟨y, hy, e⟩ := List.mem_map.mp hm
    rw [inj y x (hl y (List.mem_cons_of_mem _ hy)) (hl x List.mem_cons_self) e] at hy
    exact h.1 hy
noncomputable abbrev nrSl (n : Nat) (ts : List (Nat × Nat)) (names : List Nat) (us : List (Nat × Nat)) (x3 x4 : Option D) : Sl := [some (.pd (webD n ts)), some (.lst (names.map nD)), some (.pd (webD n us)), x3, x4]
section
variable {n : Nat} {ts : List (Nat × Nat)} (w : GW n ts) {names : List Nat} (hl : names.length = n) (inj : ∀ u v, u < n → v < n → names.getD u 0 = names.getD v 0 → u = v) (into : ∀ u, u < n → names.getD u 0 < n)
  (onto : ∀ x, x < n → ∃ u, u < n ∧ x = names.getD u 0)
include w hl inj into onto
theorem names_turn {s : Nat} (hs : s < n) : q_law_names_right_b3 (nrSl n ts names (ren (fun i => names.getD i 0) ts) (some (.int s)) none) [] = .ok (.next (nrSl n ts names (ren (fun i => names.getD i 0) ts) (some (.int s)) none)) [] := by
  have hn := w.n12
  have wr := gw_ren w inj into
  have hfs := into s hs
  let f : Nat → Nat := fun i => names.getD i 0
  let A : Sl := nrSl n ts names (ren f ts) (some (.int s)) none
  have hL := nb_len w.len s
  have hN := fun σ S => callF_pd (n := 2) (neighbours_ok w hs) rfl rfl rfl rfl σ S
  have hN2 := fun σ S => callF_pd (n := 2) (neighbours_ok wr hfs) rfl rfl rfl rfl σ S
  have hW := fun σ S => callF_pd (n := 3) (within_ok w hs (far := 2) (by omega)) rfl rfl rfl rfl σ S
  have hW2 := fun σ S => callF_pd (n := 3) (within_ok wr hfs (far := 2) (by omega)) rfl rfl rfl rfl σ S
  have h0 : 0 < n := w.n1
  have hS := fun σ S => callF_pd (n := 3) (steps_ok w hs h0) rfl rfl rfl (by cases dst ts [s] 0 <;> rfl) σ S
  have hS2 := fun σ S => callF_pd (n := 3) (steps_ok wr hfs (into 0 h0)) rfl rfl rfl (by cases dst (ren (fun i => names.getD i 0) ts) [names.getD s 0] (names.getD 0 0) <;> rfl) σ S
  rw [dst_ren (f := fun i => names.getD i 0) w inj into hs h0] at hS2
  have at' : ∀ i, i < n → ∀ S, opIx (.lst (names.map nD)) (.int i) S = .ok (.int (names.getD i 0 : Nat)) S := fun i hi S => at_names (by omega) S
  have nm : eOp opIx (eVar 1) (eVar 3) A [] = .ok (.int (names.getD s 0 : Nat)) [] := eOp_ok (d := .lst (names.map nD)) (e := .int s) rfl rfl (at' s hs _)
  have nm0 : eOp opIx (eVar 1) (eK (.int 0)) A [] = .ok (.int (names.getD 0 0 : Nat)) [] := eOp_ok (d := .lst (names.map nD)) (e := .int (0 : Nat)) rfl rfl (at' 0 h0 _)
  have lc : ∀ (l : List Nat) (it : DM Wk) (te : DM D), (∀ v, te (nrSl n ts names (ren f ts) (some (.int s)) (some (.int v))) [] = eOp opIx (eVar 1) (eVar 4) (nrSl n ts names (ren f ts) (some (.int s)) (some (.int v))) []) → it A [] = .ok ⟨l.map fun v => D.pd (nD v), .no⟩ [] → (∀ v ∈ l, v < n) → l.length ≤ 1000 →
      eLc [4] it (tgName 4) (mRet true) te A [] = .ok (.lst ((l.map f).map nD)) [] := fun l it te ht hit hlt hlen => by
    rw [List.map_map]
    refine eLc_all (gu := .no) l (fun v => D.pd (nD v)) (fun v => nD (f v)) hit (by exact trivial) (fun v hv => ⟨nrSl n ts names (ren f ts) (some (.int s)) (some (.int v)), rfl, ?_⟩) (le_size (by omega))
    rw [ht]
    exact eOp_ok (d := .lst (names.map nD)) (e := .int v) rfl rfl (at' v (hlt v hv) _)
  have c1 : sIf (eTest (eOp (opEq true) (eCall fSorted (lCons (eLc [4] (iSeq (mBind (lCons (eVar 0) (lCons (eVar 3) lNil)) (callF 2 f_neighbours))) (tgName 4) (mRet true) q_law_names_right_e1) lNil)) (eCall fList (lCons (mBind (lCons (eVar 2) (lCons (eOp opIx (eVar 1) (eVar 3)) lNil)) (callF 2 f_neighbours)) lNil)))) (sRet (eK (.bl false))) sNext A [] = .ok (.next A) [] := by
    have hlt : ∀ v ∈ nb ts s, v < n := fun v hv => adj_lt w hv
    have e1 := lc (nb ts s) (iSeq (mBind (lCons (eVar 0) (lCons (eVar 3) lNil)) (callF 2 f_neighbours))) q_law_names_right_e1 (fun v => rfl) ((iSeq_tup (xs := (nb ts s).map nD) (call2_ok (d := .pd (webD n ts)) (e := .int s) rfl rfl (hN _ _))).trans (by rw [List.map_map]; rfl)) hlt (by omega)
    have nd : ((nb ts s).map f).Nodup := inj_nodup inj ((nb_rise w s).imp fun h => Nat.ne_of_lt h) hlt
    have es := sorted_nat nd (nb_rise wr (names.getD s 0)) (fun x => ?_) []
    · rw [sIf_app, eTest_app, eOp_ok (op := opEq true) (S' := []) (S2 := []) (eCall1_ok e1 es) (eCall1_ok (call2_ok (d := .pd (webD n (ren f ts))) (e := .int (names.getD s 0 : Nat)) rfl nm (hN2 _ _)) (fList_tup _ _)) (eqFlatL true nD nD_flat nD_refl _ [])]
      rfl
    · rw [List.mem_map]
      show _ ↔ adj (ren (fun i => names.getD i 0) ts) (names.getD s 0) x
      rw [adj_ren (f := fun i => names.getD i 0) w inj into hs]
      exact ⟨fun ⟨v, hv, e⟩ => ⟨v, e.symm, hv⟩, fun ⟨v, e, hv⟩ => ⟨v, hv, e.symm⟩⟩
  have c2 : sIf (eTest (eOp (opEq true) (eCall fSorted (lCons (eLc [4] (iSeq (mBind (lCons (eVar 0) (lCons (eVar 3) (lCons (eK (.int 2)) lNil))) (callF 3 f_within))) (tgName 4) (mRet true) q_law_names_right_e2) lNil)) (eCall fList (lCons (mBind (lCons (eVar 2) (lCons (eOp opIx (eVar 1) (eVar 3)) (lCons (eK (.int 2)) lNil))) (callF 3 f_within)) lNil)))) (sRet (eK (.bl false))) sNext A [] = .ok (.next A) [] := by
    let W : List Nat := (List.range n).filter fun o => near (dst ts [s] o) 2
    have hlt : ∀ v ∈ W, v < n := fun v hv => List.mem_range.mp (List.mem_filter.mp hv).1
    have hlen : W.length ≤ 1000 := Nat.le_trans (List.length_filter_le _ _) (by rw [List.length_range]; omega)
    have e1 := lc W (iSeq (mBind (lCons (eVar 0) (lCons (eVar 3) (lCons (eK (.int 2)) lNil))) (callF 3 f_within))) q_law_names_right_e2 (fun v => rfl) ((iSeq_tup (xs := W.map nD) (call3_ok (d := .pd (webD n ts)) (e := .int s) (e3 := .int 2) rfl rfl rfl (hW _ _))).trans (by rw [List.map_map]; rfl)) hlt hlen
    have nd : (W.map f).Nodup := inj_nodup inj ((List.pairwise_lt_range.filter _).imp fun h => Nat.ne_of_lt h) hlt
    have es := sorted_nat (l' := (List.range n).filter fun o => near (dst (ren f ts) [f s] o) 2) nd (List.pairwise_lt_range.filter _) (fun x => ?_) []
    · rw [sIf_app, eTest_app, eOp_ok (op := opEq true) (S' := []) (S2 := []) (eCall1_ok e1 es) (eCall1_ok (call3_ok (d := .pd (webD n (ren f ts))) (e := .int (names.getD s 0 : Nat)) (e3 := .int 2) rfl nm rfl (hW2 _ _)) (fList_tup _ _)) (eqFlatL true nD nD_flat nD_refl _ [])]
      rfl
    · rw [List.mem_map, List.mem_filter, List.mem_range]
      constructor
      · rintro ⟨v, hv, rfl⟩
        have := List.mem_filter.mp hv
        have hvn := hlt v hv
        refine ⟨into v hvn, ?_⟩
        rw [dst_ren (f := f) w inj into hs hvn]
        exact this.2
      · rintro ⟨hx, hd⟩
        obtain ⟨u, hu, rfl⟩ := onto x hx
        refine ⟨u, List.mem_filter.mpr ⟨List.mem_range.mpr hu, ?_⟩, rfl⟩
        rw [← dst_ren (f := f) w inj into hs hu]
        exact hd
  have c3 : sIf (eTest (eOp (opEq true) (mBind (lCons (eVar 0) (lCons (eVar 3) (lCons (eK (.int 0)) lNil))) (callF 3 f_steps)) (mBind (lCons (eVar 2) (lCons (eOp opIx (eVar 1) (eVar 3)) (lCons (eOp opIx (eVar 1) (eK (.int 0))) lNil))) (callF 3 f_steps)))) (sRet (eK (.bl false))) sNext A [] = .ok (.next A) [] := by
    rw [sIf_app, eTest_app, eOp_ok (op := opEq true) (S' := []) (S2 := []) (d := .pd (optD (dst ts [s] 0))) (e := .pd (optD (dst ts [s] 0))) (call3_ok (d := .pd (webD n ts)) (e := .int s) (e3 := .int (0 : Nat)) rfl rfl rfl (hS _ _)) (call3_ok (d := .pd (webD n (ren f ts))) (e := .int (names.getD s 0 : Nat)) (e3 := .int (names.getD 0 0 : Nat)) rfl nm nm0 (hS2 _ _)) (d' := .bl false) (by
      cases dst ts [s] 0 with
      | none =>
        show opEq true .non .non [] = _
        rw [opEq_ex true rfl rfl]
        rfl
      | some d =>
        show opEq true (.int d) (.int d) [] = _
        rw [opEq_int]
        simp)]
    rfl
  unfold q_law_names_right_b3
  refine (sSeq_next c1).trans ?_
  refine (sSeq_next c2).trans ?_
  exact c3
theorem names_right_ok : f__law_names_right [.pd (webD n ts), .lst (names.map nD)] [] = .ok (.bl true) [] := by
  have hn := w.n12
  have wr := gw_ren w inj into
  refine runF_pure (S' := []) ?_
  have hR := fun σ S => callF_pd (n := 2) (renamed_ok w hl) rfl rfl rfl rfl σ S
  have hI := fun σ S => callF_pd (n := 1) (is_web_ok wr) rfl rfl rfl rfl σ S
  have loop : Sat (sFor [3] (iRange1 (lCons (eOp opIx (eVar 0) (eK (.int 0))) lNil)) (tgName 3) q_law_names_right_b3 (nrSl n ts names (ren (fun i => names.getD i 0) ts) none none) []) fun f S' => f = .next (nrSl n ts names (ren (fun i => names.getD i 0) ts) none none) ∧ S' = [] := by
    rw [sFor_app, iRange1_nat (n := n) (by simp only [Out.bind_ok, mBind_app, mRet_app, eVar_0, eVar_1, eVar_2, eVar_3, eVar_4, eVar_5, eVar_6, eVar_7, eVar_8, eVar_9, eVar_10, eK_app, eOp_app, asB_bl, eTest_app, tru_bl, eTru_app, eChain_app, bNot_app, bAnd_app, bOr_app, eNot_app, eAnd_app, eOr_app, eIf_app, eUn_app, lNil_app, lCons_app, eTup_app, eLst_app, eLstM_app, eCall_app, eSlice_app, asI_int, eMeth_app, sNext_app, sNever_app, sBrk_app, sCont_app, sSeq_app, sSet_app, sExpr_app, sRet_app, sRetN_app, sIf_app, sAsg_app, eRg1_app, eIsI_app, opAdd_int, opSub_int, opCmpI_int, opLt_int, opEq_int, tgName_app, tgNil_app, tgCons_app, tgTup_app, clr_nil', clr_cons', ofO_some, opIx_tup0, opIx_tup1, fLen_tup, fLen_lst, fTuple_lst, startD, isTy, List.map_cons, List.map_nil, List.length_cons, List.length_nil, List.cons_append, List.nil_append, List.replicate, Nat.reduceAdd, Nat.reduceSub, List.set_cons_zero, List.set_cons_succ, reduceIte, eq_self, Bool.false_eq_true, Bool.not_true, Bool.not_false, Option.bind_some, Bool.xor_false, Bool.xor_true, decide_true, decide_false]) (by omega)]
    refine forGo_range n (fun j σ S => σ = nrSl n ts names (ren (fun i => names.getD i 0) ts) none none ∧ S = []) ?_ (fun σ S h => ⟨by rw [h.1], h.2⟩) ⟨rfl, rfl⟩
    rintro s σ S hs ⟨rfl, rfl⟩
    exact ⟨_, _, names_turn w hl inj into onto hs, rfl, rfl⟩
  obtain ⟨f, S', e, rfl, rfl⟩ := loop
  show m__law_names_right [some (.pd (webD n ts)), some (.lst (names.map nD)), none, none, none] [] = _
  unfold m__law_names_right
  refine (sSeq_next (sSet_ok (call2_ok (d := .pd (webD n ts)) (e := .lst (names.map nD)) rfl rfl (hR _ _)))).trans ?_
  refine (sSeq_next e).trans ?_
  exact sRet_ok (eOp_ok (d := .bl true) (e := .bl true) (S' := []) (S2 := []) (call1_ok (d := .pd (webD n (ren (fun i => names.getD i 0) ts))) rfl (hI _ _)) rfl rfl)
end
end K08
end
section
namespace K08
open PySem PySem.Spec PyProof.Rows L2 DL
def PoolAt (S : Sto) (p : Nat) : Prop := ∃ ob, IsPool ob ∧ S[p]? = some ob
theorem PoolAt.lt {S : Sto} {p : Nat} (h : PoolAt S p) : p < S.length := by
  obtain ⟨ob, _, e⟩ := h
  rcases Nat.lt_or_ge p S.length with h | h
  · exact h
  · rw [List.getElem?_eq_none h] at e; cases e
theorem take_at {S : Sto} {p : Nat} (h : PoolAt S p) {many : Nat} (h1 : 1 ≤ many) (h2 : many ≤ 1000000) (σ : Sl) : ∃ (x : Nat) (S' : Sto), x < many ∧ PoolAt S' p ∧ S'.length = S.length ∧ (∀ q, q ≠ p → S'[q]? = S[q]?) ∧ callF 2 f__law_take [.ref p, .int many] σ S = .ok (.int x) S' := by
  have hlt := h.lt
  obtain ⟨ob, hp, hS⟩ := h
  obtain ⟨x, ob', hx, hp', e⟩ := take_call hp h1 h2 hS σ
  exact ⟨x, S.set p ob', hx, ⟨ob', hp', by rw [List.getElem?_set_self hlt]⟩, by rw [List.length_set], fun q hq => by rw [List.getElem?_set_ne (Ne.symm hq)], e⟩
theorem any_at {S : Sto} {p : Nat} (h : PoolAt S p) {m : Nat} (m1 : 1 ≤ m) (m12 : m ≤ 12) (σ : Sl) : ∃ n ts S', n ≤ m ∧ GW n ts ∧ PoolAt S' p ∧ S'.length = S.length ∧ callF 2 f__law_any_web [.ref p, .int m] σ S = .ok (.pd (webD n ts)) S' := by
  have hlt := h.lt
  obtain ⟨ob, hp, hS⟩ := h
  obtain ⟨n, ts, ob', hm, w, hp', e⟩ := any_web_call hp hS m1 m12 σ
  exact ⟨n, ts, S.set p ob', hm, w, ⟨ob', hp', by rw [List.getElem?_set_self hlt]⟩, by rw [List.length_set], e⟩
theorem rg_nats (n : Nat) : (rgD 0 n).map D.pd = (List.range n).map fun (i : Nat) => D.int i := by
  unfold rgD
  rw [show ((n : Int) - 0).toNat = n by omega, List.map_map]
  apply List.map_congr_left
  intro i _
  show D.int (0 + (i : Int)) = _
  rw [Int.zero_add]
theorem erase_perm : ∀ (l : List Nat) (i : Nat) (h : i < l.length), (l[i] :: l.eraseIdx i).Perm l
  | x :: r, 0, _ => List.Perm.refl _
  | x :: r, i + 1, h => by
    have h' : i < r.length := Nat.lt_of_succ_lt_succ h
    have ih := erase_perm r i h'
    show (r[i] :: x :: r.eraseIdx i).Perm (x :: r)
    exact (List.Perm.swap x r[i] _).trans (ih.cons x)
theorem erase_map {α β : Type} (f : α → β) : ∀ (l : List α) (i : Nat), (l.map f).eraseIdx i = (l.eraseIdx i).map f
  | [], _ => rfl
  | _ :: _, 0 => rfl
  | x :: r, i + 1 => congrArg (f x :: ·) (erase_map f r i)
theorem pop_at {S : Sto} {q : Nat} {r : List Nat} (h : S[q]? = some (.lst (r.map fun (i : Nat) => D.int i))) {x : Nat} (hx : x < r.length) (hr : r.length ≤ 1000) : mPopAt (.ref q) [.int x] S = .ok (.int (r[x] : Nat)) (S.set q (.lst ((r.eraseIdx x).map fun (i : Nat) => D.int i))) := by
  unfold mPopAt
  dsimp only
  have e : lstAt S (.ref q) = some (q, r.map fun (i : Nat) => D.int i) := by
    unfold lstAt
    simp [h]
  have e2 : seqIndex? (x : Int) (r.map fun (i : Nat) => D.int i).length = some x := by
    rw [List.length_map]
    unfold seqIndex?
    simp [hx]
    try omega
  rw [e]
  dsimp only
  rw [if_pos (by omega), e2]
  dsimp only
  rw [List.getElem?_map, List.getElem?_eq_getElem hx]
  rw [erase_map]
  rfl
theorem names_ok {S : Sto} {p q N : Nat} (hp : PoolAt S p) (hq : S[q]? = some (.lst ((List.range N).map fun (i : Nat) => D.int i))) (hpq : q ≠ p) (h1 : 1 ≤ N) (h12 : N ≤ 12) {n : Nat} {ts : List (Nat × Nat)} {x0 x1 x3 x4 x6 x7 x8 x9 : Option D} (hN : n = N) :
    ∃ (names : List Nat) (S' : Sto), names.Perm (List.range N) ∧ mBind (lcAll [15] (iRange1 (lCons (eOp opIx (eVar 5) (eK (.int 0))) lNil)) (tgName 15) (mRet true) qlaw_e2) mkF [x0, x1, some (.ref p), x3, x4, some (.pd (webD n ts)), x6, x7, x8, x9, none, none, none, some (.ref q), none, none] S = .ok (.lst (names.map nD)) S' := by
  subst hN
  have h : Sat (lcGo .no (tgName 15) (mRet true) qlaw_e2 ((List.range n).map fun (i : Nat) => D.int i) [] [x0, x1, some (.ref p), x3, x4, some (.pd (webD n ts)), x6, x7, x8, x9, none, none, none, some (.ref q), none, none] S) fun acc S' => ∃ l : List Nat, acc = l.map (fun (i : Nat) => D.int i) ∧ l.Perm (List.range n) := by
    refine lcGo_sat (gu := .no) (fun todo acc S' => ∃ (l r : List Nat), todo.length = r.length ∧ acc = l.map (fun (i : Nat) => D.int i) ∧ (l ++ r).Perm (List.range n) ∧ PoolAt S' p ∧ S'[q]? = some (.lst (r.map fun (i : Nat) => D.int i))) (fun _ _ _ _ => trivial) ?_ ?_ _ _ _ ⟨[], List.range n, by rw [List.length_map], rfl, List.Perm.refl _, hp, hq⟩
    · rintro acc S' ⟨l, r, e, rfl, hs, _, _⟩
      have : r = [] := List.eq_nil_of_length_eq_zero e.symm
      subst this
      exact ⟨l, rfl, by simpa using hs⟩
    · rintro d todo acc S' ⟨l, r, e, rfl, hs, hp', hq'⟩
      have hlen := hs.length_eq
      rw [List.length_append, List.length_range] at hlen
      rw [List.length_cons] at e
      let σ1 : Sl := [x0, x1, some (.ref p), x3, x4, some (.pd (webD n ts)), x6, x7, x8, x9, none, none, none, some (.ref q), none, some d]
      refine ⟨σ1, rfl, true, S', rfl, ?_⟩
      obtain ⟨x, S2, hx, hp2, _, hk, et⟩ := take_at hp' (many := r.length) (by omega) (by omega) σ1
      have hq2 : S2[q]? = some (.lst (r.map fun (i : Nat) => D.int i)) := by rw [hk q hpq]; exact hq'
      have hlt2 : q < S2.length := by
        rcases Nat.lt_or_ge q S2.length with h | h
        · exact h
        · rw [List.getElem?_eq_none h] at hq2; cases hq2
      have eL : eCall fLen (lCons (eVar 13) lNil) σ1 S' = .ok (.int r.length) S' := by
        refine eCall1_ok (d := .ref q) rfl ?_
        show (match S'[q]? with | some (.lst xs) => Out.ok (D.int xs.length) S' | some (.dct xs) => .ok (.int xs.length) S' | _ => .stuck) = _
        rw [hq']
        dsimp only
        rw [List.length_map]
      have ee : qlaw_e2 σ1 S' = .ok (.int (r[x] : Nat)) (S2.set q (.lst ((r.eraseIdx x).map fun (i : Nat) => D.int i))) := by
        unfold qlaw_e2
        rw [eMeth_app]
        show ((Out.ok (D.ref q) S').bind _) = _
        rw [Out.bind_ok]
        have ty : tyD S' (.ref q) = some "list" := by unfold tyD; simp [hq']
        rw [if_pos ty, lCons_app, call2_ok (d := .ref p) (e := .int r.length) rfl eL et]
        exact pop_at hq2 hx (by omega)
      refine (if_pos rfl : (if true = true then _ else _) = _) ▸ ⟨_, _, ee, ?_, l ++ [r[x]], r.eraseIdx x, ?_, by rw [List.map_append]; rfl, ?_, ?_, ?_⟩
      · rw [List.length_map]
        exact Nat.lt_of_lt_of_le (by omega) (le_size (n := 12) (by omega))
      · rw [List.length_eraseIdx_of_lt hx]
        omega
      · rw [List.append_assoc]
        exact ((erase_perm r x hx).append_left l).trans hs
      · obtain ⟨ob, ho, eo⟩ := hp2
        exact ⟨ob, ho, by rw [List.getElem?_set_ne hpq]; exact eo⟩
      · rw [List.getElem?_set_self hlt2]
  obtain ⟨acc, S', e, l, rfl, hs⟩ := h
  refine ⟨l, S', hs, ?_⟩
  unfold lcAll
  rw [mBind_app]
  rw [iRange1_nat (n := n) (by rw [lCons_app, web0 (n := n) (ts := ts) rfl]; rfl) (by omega)]
  show (lcGo .no (tgName 15) (mRet true) qlaw_e2 ((List.range n).map fun (i : Nat) => D.int i) [] [x0, x1, some (.ref p), x3, x4, some (.pd (webD n ts)), x6, x7, x8, x9, none, none, none, some (.ref q), none, none] S).bind _ = _
  rw [e, Out.bind_ok]
  exact mkF_map l (fun (i : Nat) => nD i)
end K08
end
section
namespace K08
open PySem PySem.Spec PyProof.Rows L2 DL
theorem perm_names {names : List Nat} {N : Nat} (h : names.Perm (List.range N)) : names.length = N ∧ (∀ u v, u < N → v < N → names.getD u 0 = names.getD v 0 → u = v) ∧ (∀ u, u < N → names.getD u 0 < N) ∧ ∀ x, x < N → ∃ u, u < N ∧ x = names.getD u 0 := by
  have hl : names.length = N := by rw [h.length_eq, List.length_range]
  have nd : names.Nodup := h.nodup_iff.mpr List.nodup_range
  have gd : ∀ u (hu : u < names.length), names.getD u 0 = names[u] := fun u hu => by rw [List.getD_eq_getElem?_getD, List.getElem?_eq_getElem hu]; rfl
  refine ⟨hl, fun u v hu hv e => ?_, fun u hu => ?_, fun x hx => ?_⟩
  · rw [gd u (by omega), gd v (by omega)] at e
    have pw := List.pairwise_iff_getElem.mp nd
    rcases Nat.lt_trichotomy u v with h' | h' | h'
    · exact absurd e (pw u v (by omega) (by omega) h')
    · exact h'
    · exact absurd e.symm (pw v u (by omega) (by omega) h')
  · rw [gd u (by omega)]
    exact List.mem_range.mp (h.mem_iff.mp (List.getElem_mem _))
  · obtain ⟨u, hu, e⟩ := List.mem_iff_getElem.mp (h.mem_iff.mpr (List.mem_range.mpr hx))
    exact ⟨u, by omega, by rw [gd u hu, e]⟩
theorem cut_left {α : Type} {xs ys : List α} {n : Nat} (h : xs.length = n) : cut (xs ++ ys) none (some (n : Int)) = xs := by
  unfold cut
  rw [HT.sIx_none, HT.sIx_nat, List.drop_zero, Nat.sub_zero, List.length_append, Nat.min_eq_left (by omega), ← h, List.take_left']
  rfl
theorem cut_right {α : Type} {xs ys : List α} {n : Nat} (h : xs.length = n) : cut (xs ++ ys) (some (n : Int)) none = ys := by
  unfold cut
  rw [HT.sIx_none, HT.sIx_nat, List.length_append, Nat.min_eq_left (by omega), ← h, List.drop_left', List.take_of_length_le (by omega)]
  rfl
theorem bes_rows {n m : Nat} {ts us : List (Nat × Nat)} (w : GW n ts) (w2 : GW m us) (h : n + m ≤ 12) {s : Nat} (hs : s < n) :
    (List.range (n + m)).map (fun v => optD (dst (bes n ts us) [s] v)) = (List.range n).map (fun v => optD (dst ts [s] v)) ++ (List.range m).map (fun v => optD (dst (bes n ts us) [s] (n + v))) := by
  rw [List.range_add, List.map_append, List.map_map]
  congr 1
  refine List.map_congr_left fun v hv => ?_
  rw [dst_left w w2 hs (List.mem_range.mp hv) h]
theorem bes_rows2 {n m : Nat} {ts us : List (Nat × Nat)} (w : GW n ts) (w2 : GW m us) (h : n + m ≤ 12) {s : Nat} (hs : s < m) :
    (List.range (n + m)).map (fun v => optD (dst (bes n ts us) [s + n] v)) = (List.range n).map (fun v => optD (dst (bes n ts us) [s + n] v)) ++ (List.range m).map (fun v => optD (dst us [s] v)) := by
  rw [List.range_add, List.map_append, List.map_map]
  congr 1
  refine List.map_congr_left fun v hv => ?_
  show optD (dst (bes n ts us) [s + n] (n + v)) = _
  rw [Nat.add_comm n v, dst_right w w2 hs (List.mem_range.mp hv) h]
noncomputable abbrev lwSl (ns : List Int) (k p n m : Nat) (ts us : List (Nat × Nat)) (s t : Nat) (x8 x9 x10 x11 x12 x13 x14 : Option D) : Sl := [some (.lst (ns.map .int)), some (.int k), some (.ref p), some (.pd (webD n ts)), some (.pd (webD m us)), some (.pd (webD (n + m) (bes n ts us))), some (.int s), some (.int (n + t : Nat)), x8, x9, x10, x11, x12, x13, x14, none]
section
variable {ns : List Int} {k p n m : Nat} {ts us : List (Nat × Nat)} (w : GW n ts) (w2 : GW m us) (h12 : n + m ≤ 12) {s t : Nat} (hs : s < n) (ht : t < m) {S : Sto}
include w w2 h12 hs ht
theorem wb : GW (n + m) (bes n ts us) := gw_bes w w2 h12
theorem apart : dst (bes n ts us) [s] (n + t) = none ∧ dst (bes n ts us) [n + t] s = none := by
  refine ⟨dst_left0 w w2 hs (by omega) h12, ?_⟩
  rw [Nat.add_comm n t]
  exact dst_right0 w w2 ht hs h12
theorem c1 : sIf (bOr (eTest (eOp (opIs true) (mBind (lCons (eVar 5) (lCons (eVar 6) (lCons (eVar 7) lNil))) (callF 3 f_steps)) (eK .non))) (eTest (eOp (opIs true) (mBind (lCons (eVar 5) (lCons (eVar 7) (lCons (eVar 6) lNil))) (callF 3 f_steps)) (eK .non)))) (sRet (eK (.bl false))) sNext (lwSl ns k p n m ts us s t none none none none none none none) S = .ok (.next (lwSl ns k p n m ts us s t none none none none none none none)) S := by
  have wb := gw_bes w w2 h12
  obtain ⟨a1, a2⟩ := apart w w2 h12 hs ht
  have h1 := fun σ S => callF_pd (n := 3) (steps_ok wb (s := s) (o := n + t) (by omega) (by omega)) rfl rfl rfl (by rw [a1]; rfl) σ S
  have h2 := fun σ S => callF_pd (n := 3) (steps_ok wb (s := n + t) (o := s) (by omega) (by omega)) rfl rfl rfl (by rw [a2]; rfl) σ S
  rw [a1] at h1
  rw [a2] at h2
  rw [sIf_app, bOr_app, eTest_app, eOp_ok (op := opIs true) (S' := S) (S2 := S) (d := .pd (optD none)) (e := .non) (call3_ok (d := .pd (webD (n + m) (bes n ts us))) (e := .int s) (e3 := .int (n + t : Nat)) rfl rfl rfl (h1 _ _)) rfl (is_none true none _)]
  show (eTest _ _ S).bind _ = _
  rw [eTest_app, eOp_ok (op := opIs true) (S' := S) (S2 := S) (d := .pd (optD none)) (e := .non) (call3_ok (d := .pd (webD (n + m) (bes n ts us))) (e := .int (n + t : Nat)) (e3 := .int s) rfl rfl rfl (h2 _ _)) rfl (is_none true none _)]
  rfl
theorem c2 : sIf (eTest (eOp (opEq true) (eSlice (mBind (lCons (eVar 5) (lCons (eTup (lCons (eVar 6) lNil)) lNil)) (callF 2 f_steps_to)) (mRet none) (mBind (eOp opIx (eVar 3) (eK (.int 0))) asI)) (mBind (lCons (eVar 3) (lCons (eTup (lCons (eVar 6) lNil)) lNil)) (callF 2 f_steps_to)))) (sRet (eK (.bl false))) sNext (lwSl ns k p n m ts us s t none none none none none none none) S = .ok (.next (lwSl ns k p n m ts us s t none none none none none none none)) S := by
  have wb := gw_bes w w2 h12
  have h1 := fun σ S => callF_pd (n := 2) (steps_to_ok wb (l := [s]) (one_ok (n := n + m) (by omega)).2.1 (List.pairwise_singleton _ _) (by simp)) rfl rfl rfl rfl σ S
  have h2 := fun σ S => callF_pd (n := 2) (steps_to_ok w (l := [s]) (one_ok hs).2.1 (List.pairwise_singleton _ _) (by simp)) rfl rfl rfl rfl σ S
  rw [bes_rows w w2 h12 hs] at h1
  have e1 : eSlice (mBind (lCons (eVar 5) (lCons (eTup (lCons (eVar 6) lNil)) lNil)) (callF 2 f_steps_to)) (mRet none) (mBind (eOp opIx (eVar 3) (eK (.int 0))) asI) (lwSl ns k p n m ts us s t none none none none none none none) S = .ok (.tup ((List.range n).map fun v => optD (dst ts [s] v))) S := by
    rw [eSlice_app, call2_ok (d := .pd (webD (n + m) (bes n ts us))) (e := .tup [nD s]) rfl (eTup1_ok (x := nD s) rfl) (h1 _ _), Out.bind_ok, mRet_app, Out.bind_ok, mBind_app, web0 (n := n) (ts := ts) rfl, Out.bind_ok, asI_int, Out.bind_ok]
    show Out.ok (D.tup (cut _ none (some (n : Int)))) S = _
    rw [cut_left (by rw [List.length_map, List.length_range])]
  rw [sIf_app, eTest_app, eOp_ok (op := opEq true) (S' := S) (S2 := S) e1 (call2_ok (d := .pd (webD n ts)) (e := .tup [nD s]) rfl (eTup1_ok (x := nD s) rfl) (h2 _ _)) (eqFlatT true _ (fun v => opt_flat _) (fun v => eqv_refl_opt _) (List.range n) S)]
  rfl
theorem c3 : sIf (eTest (eOp (opEq true) (eSlice (mBind (lCons (eVar 5) (lCons (eTup (lCons (eVar 7) lNil)) lNil)) (callF 2 f_steps_to)) (mBind (eOp opIx (eVar 3) (eK (.int 0))) asI) (mRet none)) (mBind (lCons (eVar 4) (lCons (eTup (lCons (eOp opSub (eVar 7) (eOp opIx (eVar 3) (eK (.int 0)))) lNil)) lNil)) (callF 2 f_steps_to)))) (sRet (eK (.bl false))) sNext (lwSl ns k p n m ts us s t none none none none none none none) S = .ok (.next (lwSl ns k p n m ts us s t none none none none none none none)) S := by
  have wb := gw_bes w w2 h12
  have h1 := fun σ S => callF_pd (n := 2) (steps_to_ok wb (l := [t + n]) (one_ok (n := n + m) (by omega)).2.1 (List.pairwise_singleton _ _) (by simp)) rfl rfl rfl rfl σ S
  have h2 := fun σ S => callF_pd (n := 2) (steps_to_ok w2 (l := [t]) (one_ok ht).2.1 (List.pairwise_singleton _ _) (by simp)) rfl rfl rfl rfl σ S
  rw [bes_rows2 w w2 h12 ht, Nat.add_comm t n] at h1
  have e1 : eSlice (mBind (lCons (eVar 5) (lCons (eTup (lCons (eVar 7) lNil)) lNil)) (callF 2 f_steps_to)) (mBind (eOp opIx (eVar 3) (eK (.int 0))) asI) (mRet none) (lwSl ns k p n m ts us s t none none none none none none none) S = .ok (.tup ((List.range m).map fun v => optD (dst us [t] v))) S := by
    rw [eSlice_app, call2_ok (d := .pd (webD (n + m) (bes n ts us))) (e := .tup [nD (n + t)]) rfl (eTup1_ok (x := nD (n + t)) rfl) (h1 _ _), Out.bind_ok, mBind_app, web0 (n := n) (ts := ts) rfl, Out.bind_ok, asI_int, Out.bind_ok, mRet_app, Out.bind_ok]
    show Out.ok (D.tup (cut _ (some (n : Int)) none)) S = _
    rw [cut_right (by rw [List.length_map, List.length_range])]
  have e2 : eOp opSub (eVar 7) (eOp opIx (eVar 3) (eK (.int 0))) (lwSl ns k p n m ts us s t none none none none none none none) S = .ok (.int t) S := by
    refine eOp_ok (d := .int (n + t : Nat)) (e := .int n) (S' := S) rfl (web0 rfl) ?_
    show Out.ok (D.int (((n + t : Nat) : Int) - (n : Int))) S = _
    rw [show ((n + t : Nat) : Int) - (n : Int) = (t : Int) by omega]
  rw [sIf_app, eTest_app, eOp_ok (op := opEq true) (S' := S) (S2 := S) e1 (call2_ok (d := .pd (webD m us)) (e := .tup [nD t]) rfl (eTup1_ok (x := nD t) e2) (h2 _ _)) (eqFlatT true _ (fun v => opt_flat _) (fun v => eqv_refl_opt _) (List.range m) S)]
  rfl
theorem c4 : eTup (lCons (eOp opIx (eVar 5) (eK (.int 0))) (lCons (eCall fTuple (lCons (eCall fSorted (lCons (eOp opAdd (eOp opIx (eVar 5) (eK (.int 1))) (eTup (lCons (eTup (lCons (eVar 6) (lCons (eVar 7) lNil))) lNil))) lNil)) lNil)) lNil)) (lwSl ns k p n m ts us s t none none none none none none none) S = .ok (.pd (webD (n + m) (mor (bes n ts us) s (n + t)))) S := by
  have wb := gw_bes w w2 h12
  have l := wb.len
  have e1 : eOp opAdd (eOp opIx (eVar 5) (eK (.int 1))) (eTup (lCons (eTup (lCons (eVar 6) (lCons (eVar 7) lNil))) lNil)) (lwSl ns k p n m ts us s t none none none none none none none) S = .ok (.tup ((bes n ts us ++ [(s, n + t)]).map tieD)) S := by
    refine eOp_ok (d := .tup ((bes n ts us).map tieD)) (e := .tup [tieD (s, n + t)]) (S' := S) (S2 := S) (web1 rfl) (eTup1_ok (x := tieD (s, n + t)) (eTup2_ok (x := nD s) (y := nD (n + t)) (S' := S) rfl rfl)) ?_
    rw [opAdd_tup (le_size (by rw [List.length_map, List.length_singleton]; omega)), List.map_append]
    rfl
  have es : fSorted [.tup ((bes n ts us ++ [(s, n + t)]).map tieD)] S = .ok (.lst (((bes n ts us ++ [(s, n + t)]).mergeSort tle).map tieD)) S := by
    have e : asQ S (.tup ((bes n ts us ++ [(s, n + t)]).map tieD)) = some (((bes n ts us ++ [(s, n + t)]).map tieD).map D.pd) := by
      unfold asQ
      rfl
    unfold fSorted
    simp only [e, pdL_map, sortOk_ties, if_true, sortD_ties]
  exact eTup2_ok (x := .int (n + m : Nat)) (y := .tuple ((mor (bes n ts us) s (n + t)).map tieD)) (S' := S) (web0 rfl) (eCall1_ok (eCall1_ok e1 es) (fTuple_lst _))
end
end K08
end
section
namespace K08
open PySem PySem.Spec PyProof.Rows L2 DL
section
variable {ns : List Int} {k p n m : Nat} {ts us : List (Nat × Nat)} (w : GW n ts) (w2 : GW m us) (h12 : n + m ≤ 12) {s t : Nat} (hs : s < n) (ht : t < m) {S : Sto}
include w w2 h12 hs ht
theorem wmor : GW (n + m) (mor (bes n ts us) s (n + t)) := by
  refine gw_mor (gw_bes w w2 h12) (by omega) (by omega) fun h => ?_
  rcases List.mem_append.mp h with h | h
  · have := w.tie _ h
    simp only at this
    omega
  · obtain ⟨q, _, e⟩ := List.mem_map.mp h
    have e1 : q.1 + n = s := congrArg Prod.fst e
    omega
theorem c5 {d : Nat} (hd : d < n + m) : sFor [10, 11, 12] (iRange1 (lCons (eOp opIx (eVar 5) (eK (.int 0))) lNil)) (tgName 10) qlaw_b1 (lwSl ns k p n m ts us s t (some (.pd (webD (n + m) (mor (bes n ts us) s (n + t))))) (some (.int d)) none none none none none) S = .ok (.next (lwSl ns k p n m ts us s t (some (.pd (webD (n + m) (mor (bes n ts us) s (n + t))))) (some (.int d)) none none none none none)) S := by
  have wb := gw_bes w w2 h12
  have wm := wmor w w2 h12 hs ht
  let A : Sl := lwSl ns k p n m ts us s t (some (.pd (webD (n + m) (mor (bes n ts us) s (n + t))))) (some (.int d)) none none none none none
  have h : Sat (sFor [10, 11, 12] (iRange1 (lCons (eOp opIx (eVar 5) (eK (.int 0))) lNil)) (tgName 10) qlaw_b1 A S) fun f S' => f = .next A ∧ S' = S := by
    rw [sFor_app, iRange1_nat (n := n + m) (by rw [lCons_app, web0 (n := n + m) (ts := bes n ts us) rfl]; rfl) (by omega)]
    refine forGo_range (n + m) (fun j σ S' => σ = A ∧ S' = S) ?_ (fun σ S h => ⟨by rw [h.1], h.2⟩) ⟨rfl, rfl⟩
    rintro v σ S' hv ⟨rfl, rfl⟩
    have h1 := fun σ S => callF_pd (n := 3) (steps_ok wb hv hd) rfl rfl rfl (by cases dst (bes n ts us) [v] d <;> rfl) σ S
    have h2 := fun σ S => callF_pd (n := 3) (steps_ok wm hv hd) rfl rfl rfl (by cases dst (mor (bes n ts us) s (n + t)) [v] d <;> rfl) σ S
    let B : Sl := lwSl ns k p n m ts us s t (some (.pd (webD (n + m) (mor (bes n ts us) s (n + t))))) (some (.int d)) (some (.int v)) none none none none
    let C : Sl := lwSl ns k p n m ts us s t (some (.pd (webD (n + m) (mor (bes n ts us) s (n + t))))) (some (.int d)) (some (.int v)) (some (.pd (optD (dst (bes n ts us) [v] d)))) (some (.pd (optD (dst (mor (bes n ts us) s (n + t)) [v] d)))) none none
    have e1 : sPar 11 12 (lCons (mBind (lCons (eVar 5) (lCons (eVar 10) (lCons (eVar 9) lNil))) (callF 3 f_steps)) (lCons (mBind (lCons (eVar 8) (lCons (eVar 10) (lCons (eVar 9) lNil))) (callF 3 f_steps)) lNil)) B S' = .ok (.next C) S' := by
      unfold sPar
      rw [lCons_app, call3_ok (d := .pd (webD (n + m) (bes n ts us))) (e := .int v) (e3 := .int d) rfl rfl rfl (h1 _ _), Out.bind_ok, lCons_app, call3_ok (d := .pd (webD (n + m) (mor (bes n ts us) s (n + t)))) (e := .int v) (e3 := .int d) rfl rfl rfl (h2 _ _)]
      rfl
    have i1 : eTest (eOp (opIs true) (eVar 11) (eK .non)) C S' = .ok ((dst (bes n ts us) [v] d).isNone ^^ true) S' := by
      rw [eTest_app, eOp_ok (op := opIs true) (S' := S') (S2 := S') (d := .pd (optD (dst (bes n ts us) [v] d))) (e := .non) rfl rfl (is_none true _ _)]
      rfl
    have i2 : eTest (eOp (opIs false) (eVar 12) (eK .non)) C S' = .ok ((dst (mor (bes n ts us) s (n + t)) [v] d).isNone ^^ false) S' := by
      rw [eTest_app, eOp_ok (op := opIs false) (S' := S') (S2 := S') (d := .pd (optD (dst (mor (bes n ts us) s (n + t)) [v] d))) (e := .non) rfl rfl (is_none false _ _)]
      rfl
    have e2 : bAnd (eTest (eOp (opIs true) (eVar 11) (eK .non))) (bOr (eTest (eOp (opIs false) (eVar 12) (eK .non))) (eTest (eOp (opCmpI fun i j => decide (j < i)) (eVar 12) (eVar 11)))) C S' = .ok false S' := by
      rw [bAnd_app, i1]
      cases e : dst (bes n ts us) [v] d with
      | none => rfl
      | some a =>
        obtain ⟨b, hb, eb⟩ := dst_mor wb wm e
        rw [eb] at i2
        show (bOr _ _ C S') = _
        rw [bOr_app, i2]
        show eTest _ C S' = _
        rw [eTest_app, eOp_ok (op := opCmpI fun i j => decide (j < i)) (S' := S') (S2 := S') (d := .int b) (e := .int a) (congrArg (fun o => Out.ok (D.pd (optD o)) S') eb) (congrArg (fun o => Out.ok (D.pd (optD o)) S') e) (show _ = Out.ok (D.bl (decide ((a : Int) < (b : Int)))) S' from rfl), decide_eq_false (by omega)]
        rfl
    refine ⟨.next C, S', ?_, rfl, rfl⟩
    show qlaw_b1 B S' = _
    unfold qlaw_b1
    refine (sSeq_next e1).trans ?_
    rw [sIf_app, e2]
    rfl
  obtain ⟨f, S', e, rfl, rfl⟩ := h
  exact e
theorem c6 {d : Nat} (hd : d < n + m) {x13 x14 : Option D} : sIf (bOr (bNot (eTru (mBind (lCons (eVar 8) (lCons (eVar 9) (lCons (eVar 6) lNil))) (callF 3 f__law_way_right)))) (bNot (eTru (mBind (lCons (eVar 5) (lCons (eVar 9) (lCons (eVar 7) lNil))) (callF 3 f__law_way_right))))) (sRet (eK (.bl false))) sNext (lwSl ns k p n m ts us s t (some (.pd (webD (n + m) (mor (bes n ts us) s (n + t))))) (some (.int d)) none none none x13 x14) S = .ok (.next (lwSl ns k p n m ts us s t (some (.pd (webD (n + m) (mor (bes n ts us) s (n + t))))) (some (.int d)) none none none x13 x14)) S := by
  have wb := gw_bes w w2 h12
  have wm := wmor w w2 h12 hs ht
  have h1 := fun σ S => callF_pd (n := 3) (way_right_ok wm hd (o := s) (by omega)) rfl rfl rfl rfl σ S
  have h2 := fun σ S => callF_pd (n := 3) (way_right_ok wb hd (o := n + t) (by omega)) rfl rfl rfl rfl σ S
  rw [sIf_app, bOr_app, bNot_app, eTru_app, call3_ok (d := .pd (webD (n + m) (mor (bes n ts us) s (n + t)))) (e := .int d) (e3 := .int s) rfl rfl rfl (h1 _ _)]
  show ((bNot _ _ S).bind _) = _
  rw [bNot_app, eTru_app, call3_ok (d := .pd (webD (n + m) (bes n ts us))) (e := .int d) (e3 := .int (n + t : Nat)) rfl rfl rfl (h2 _ _)]
  rfl
theorem c7 {d : Nat} {names : List Nat} (hn : names.Perm (List.range (n + m))) {x13 : Option D} : sIf (bNot (eTru (mBind (lCons (eVar 8) (lCons (eVar 14) lNil)) (callF 2 f__law_names_right)))) (sRet (eK (.bl false))) sNext (lwSl ns k p n m ts us s t (some (.pd (webD (n + m) (mor (bes n ts us) s (n + t))))) (some (.int d)) none none none x13 (some (.lst (names.map nD)))) S = .ok (.next (lwSl ns k p n m ts us s t (some (.pd (webD (n + m) (mor (bes n ts us) s (n + t))))) (some (.int d)) none none none x13 (some (.lst (names.map nD))))) S := by
  have wm := wmor w w2 h12 hs ht
  obtain ⟨hl, inj, into, onto⟩ := perm_names hn
  have h1 := fun σ S => callF_pd (n := 2) (names_right_ok wm hl inj into onto) rfl rfl rfl rfl σ S
  rw [sIf_app, bNot_app, eTru_app, call2_ok (d := .pd (webD (n + m) (mor (bes n ts us) s (n + t)))) (e := .lst (names.map nD)) rfl rfl (h1 _ _)]
  rfl
end
end K08
end
section
namespace K08
open PySem PySem.Spec PyProof.Rows L2 DL
abbrev lw0 (ns : List Int) : Sl := [some (.lst (ns.map .int)), none, none, none, none, none, none, none, none, none, none, none, none, none, none, none]
theorem sPar_ok {i j : Nat} {m m2 : DM D} {d e : D} {σ : Sl} {S S' S2 : Sto} (h : m σ S = .ok d S') (h2 : m2 σ S' = .ok e S2) : sPar i j (lCons m (lCons m2 lNil)) σ S = .ok (.next ((σ.set i (some d)).set j (some e))) S2 := by
  unfold sPar
  rw [lCons_app, h, Out.bind_ok, lCons_app, h2]
  rfl
theorem body_ok (ns : List Int) (k : Nat) (S : Sto) : Sat (qlaw_b3 ((lw0 ns).set 1 (some (.int k))) S) fun f S' => match f with
    | .next σ2 => clr [1, 2, 3, 4, 5, 6, 7, 8, 9, 10, 11, 12, 13, 14] σ2 = lw0 ns
    | _ => False := by
  let p := S.length
  let A0 : Sl := [some (.lst (ns.map .int)), some (.int k), none, none, none, none, none, none, none, none, none, none, none, none, none, none]
  let A1 : Sl := [some (.lst (ns.map .int)), some (.int k), some (.ref p), none, none, none, none, none, none, none, none, none, none, none, none, none]
  obtain ⟨ob, hp, e1⟩ := pool_call ns k A0 S
  have hg : PoolAt (S ++ [ob]) p := ⟨ob, hp, by
    show (S ++ [ob])[S.length]? = some ob
    rw [List.getElem?_append_right (Nat.le_refl _), Nat.sub_self]; rfl⟩
  obtain ⟨n, ts, S1, hn, w, hp1, _, e2⟩ := any_at hg (m := 6) (by omega) (by omega) A1
  obtain ⟨m, us, S2, hm, w2, hp2, _, e3⟩ := any_at hp1 (m := 6) (by omega) (by omega) A1
  have h12 : n + m ≤ 12 := by omega
  have wb := gw_bes w w2 h12
  have n1 := w.n1
  have m1 := w2.n1
  have hB := fun σ S => callF_pd (n := 2) (put_beside_ok w w2) rfl rfl rfl rfl σ S
  let A3 : Sl := [some (.lst (ns.map .int)), some (.int k), some (.ref p), some (.pd (webD n ts)), some (.pd (webD m us)), some (.pd (webD (n + m) (bes n ts us))), none, none, none, none, none, none, none, none, none, none]
  obtain ⟨s, S3, hs, hp3, _, _, e4⟩ := take_at hp2 (many := n) n1 (by omega) A3
  obtain ⟨t, S4, ht, hp4, _, _, e5⟩ := take_at hp3 (many := m) m1 (by omega) A3
  let M : Option D := some (.pd (webD (n + m) (mor (bes n ts us) s (n + t))))
  obtain ⟨d, S5, hd, hp5, _, _, e6⟩ := take_at hp4 (many := n + m) (by omega) (by omega) (lwSl ns k p n m ts us s t M none none none none none none)
  let q := S5.length
  let S6 : Sto := S5 ++ [.lst ((List.range (n + m)).map fun (i : Nat) => D.int i)]
  have hq : S6[q]? = some (.lst ((List.range (n + m)).map fun (i : Nat) => D.int i)) := by
    show (S5 ++ _)[S5.length]? = _
    rw [List.getElem?_append_right (Nat.le_refl _), Nat.sub_self]; rfl
  have hlt := hp5.lt
  have hpq : q ≠ p := fun h => by
    have h : S5.length = S.length := h
    have hlt : S.length < S5.length := hlt
    omega
  have hp6 : PoolAt S6 p := by
    obtain ⟨ob, h1, h2⟩ := hp5
    exact ⟨ob, h1, by rw [List.getElem?_append_left hlt]; exact h2⟩
  obtain ⟨names, S7, hnm, e7⟩ := names_ok hp6 hq hpq (by omega) h12 (n := n + m) (ts := bes n ts us) (x0 := some (.lst (ns.map .int))) (x1 := some (.int k)) (x3 := some (.pd (webD n ts))) (x4 := some (.pd (webD m us))) (x6 := some (.int s)) (x7 := some (.int (n + t : Nat))) (x8 := M) (x9 := some (.int d)) rfl
  have eR : eRgM1 (eOp opIx (eVar 5) (eK (.int 0))) (lwSl ns k p n m ts us s t M (some (.int d)) none none none none none) S5 = .ok (.ref q) S6 := by
    unfold eRgM1
    rw [mBind_app, web0 (n := n + m) (ts := bes n ts us) rfl, Out.bind_ok]
    dsimp only
    rw [if_pos (by unfold RgOk; omega), rg_nats]
  refine ⟨.next (lwSl ns k p n m ts us s t M (some (.int d)) none none none (some (.ref q)) (some (.lst (names.map nD)))), S7, ?_, rfl⟩
  show qlaw_b3 A0 S = _
  unfold qlaw_b3
  refine (sSeq_next (sSet_ok (d := .ref p) (S' := S ++ [ob]) ?_)).trans ?_
  · rw [mBind_app, lCons_app]
    exact e1
  refine (sSeq_next (sPar_ok (call2_ok (d := .ref p) (e := .int (6 : Nat)) rfl rfl e2) (call2_ok (d := .ref p) (e := .int (6 : Nat)) rfl rfl e3))).trans ?_
  refine (sSeq_next (sSet_ok (call2_ok (d := .pd (webD n ts)) (e := .pd (webD m us)) rfl rfl (hB _ _)))).trans ?_
  refine (sSeq_next (sPar_ok (call2_ok (d := .ref p) (e := .int n) rfl (web0 rfl) e4) (eOp_ok (d := .int n) (e := .int t) (web0 rfl) (call2_ok (d := .ref p) (e := .int m) rfl (web0 rfl) e5) (opAdd_nat n t _)))).trans ?_
  refine (sSeq_next (c1 w w2 h12 hs ht)).trans ?_
  refine (sSeq_next (c2 w w2 h12 hs ht)).trans ?_
  refine (sSeq_next (c3 w w2 h12 hs ht)).trans ?_
  refine (sSeq_next (sSet_ok (c4 w w2 h12 hs ht))).trans ?_
  refine (sSeq_next (sSet_ok (call2_ok (d := .ref p) (e := .int (n + m : Nat)) rfl (web0 rfl) e6))).trans ?_
  refine (sSeq_next (c5 w w2 h12 hs ht hd)).trans ?_
  refine (sSeq_next (sSet_ok eR)).trans ?_
  refine (sSeq_next (sSet_ok e7)).trans ?_
  refine (sSeq_next (c6 w w2 h12 hs ht hd)).trans ?_
  exact c7 w w2 h12 hs ht hnm
theorem law_holds : ∀ ns : List Int, ns.length ≤ 63 → f_law [.lst (ns.map .int)] [] = .ok (.bl true) [] := by
  intro ns hz
  have h : Sat (sFor [1, 2, 3, 4, 5, 6, 7, 8, 9, 10, 11, 12, 13, 14] (iRange1 (lCons (eCall fMax2 (lCons (eK (.int 1)) (lCons (eCall fMin2 (lCons (eK (.int 8)) (lCons (eCall fLen (lCons (eVar 0) lNil)) lNil))) lNil))) lNil)) (tgName 1) qlaw_b3 (lw0 ns) []) fun f _ => f = .next (lw0 ns) := by
    obtain ⟨m, hm, em⟩ : ∃ m : Nat, m ≤ 1000000 ∧ (lCons (eCall fMax2 (lCons (eK (.int 1)) (lCons (eCall fMin2 (lCons (eK (.int 8)) (lCons (eCall fLen (lCons (eVar 0) lNil)) lNil))) lNil))) lNil) (lw0 ns) [] = .ok [.int m] [] := by
      have e : eCall fLen (lCons (eVar 0) lNil) (lw0 ns) [] = .ok (.int (ns.length : Nat)) [] := by
        refine eCall1_ok (d := .lst (ns.map .int)) rfl ?_
        rw [fLen_lst, List.length_map]
      have e2 : eCall fMin2 (lCons (eK (.int 8)) (lCons (eCall fLen (lCons (eVar 0) lNil)) lNil)) (lw0 ns) [] = .ok (.int (min 8 ns.length : Nat)) [] := by
        refine eCall2_ok (d := .int 8) rfl e ?_
        exact fMin_nat 8 ns.length []
      refine ⟨max 1 (min 8 ns.length), by omega, ?_⟩
      have e4 : eCall fMax2 (lCons (eK (.int 1)) (lCons (eCall fMin2 (lCons (eK (.int 8)) (lCons (eCall fLen (lCons (eVar 0) lNil)) lNil))) lNil)) (lw0 ns) [] = .ok (.int (max 1 (min 8 ns.length) : Nat)) [] := eCall2_ok (d := .int 1) rfl e2 (fMax_nat 1 _ _)
      rw [lCons_app, e4]
      rfl
    rw [sFor_app, iRange1_nat (n := m) em hm]
    refine forGo_range m (fun j σ S => σ = lw0 ns) ?_ (fun σ S h => by rw [h]) rfl
    rintro k σ S hk rfl
    refine (body_ok ns k S).imp fun f S' hf => ?_
    cases f with
    | next σ2 => exact hf
    | cont σ2 => exact hf.elim
    | brk σ2 => exact hf.elim
    | ret d => exact hf.elim
  obtain ⟨f, S', e, rfl⟩ := h
  refine runF_pure (S' := S') ?_
  show m_law (lw0 ns) [] = _
  unfold m_law
  exact (sSeq_next e).trans rfl
end K08
end
section
open PySem PySem.W PyProof.Rows in
set_option maxRecDepth 100000 in
set_option maxHeartbeats 0 in
theorem PySem.Challenge.cw_comeright_k08_whole_paths_and_parts_holds : PySem.Challenge.rw_comeright_k08_whole_paths_and_parts.Holds := by
  w_on; o_law; k_head; (case hw => w_witness2)
  k_fill
  refine K08.walk (l := PySem.Challenge.rw_comeright_k08_whole_paths_and_parts) rfl rfl ?nl (fun w h Y => PySem.W.kIn_of Y) ?F K08.law_holds
  case nl => intro w; first | rfl | kernel_rfl
  case F =>
    intro w mg fa h KX G hmg
    refine' K08.top_fa KX G hmg ?q_g0 ?q_l0 ?q_c0 ?q_k0 ?q_g1 ?q_l1 ?q_c1 ?q_k1 ?q_g2 ?q_l2 ?q_c2 ?q_k2 ?q_g3 ?q_l3 ?q_c3 ?q_k3 ?q_g4 ?q_l4 ?q_c4 ?q_k4 ?q_g5 ?q_l5 ?q_c5 ?q_k5 ?q_g6 ?q_l6 ?q_c6 ?q_k6 ?q_g7 ?q_l7 ?q_c7 ?q_k7 ?q_g8 ?q_l8 ?q_c8 ?q_k8 ?q_g9 ?q_l9 ?q_c9 ?q_k9 ?q_g10 ?q_l10 ?q_c10 ?q_k10 ?q_g11 ?q_l11 ?q_c11 ?q_k11 ?q_g12 ?q_l12 ?q_c12 ?q_k12 ?q_g13 ?q_l13 ?q_c13 ?q_k13 ?q_g14 ?q_l14 ?q_c14 ?q_k14 ?q_g15 ?q_l15 ?q_c15 ?q_k15 ?q_g16 ?q_l16 ?q_c16 ?q_k16 ?q_g17 ?q_l17 ?q_c17 ?q_k17 ?q_g18 ?q_l18 ?q_c18 ?q_k18 ?q_g19 ?q_l19 ?q_c19 ?q_k19 ?q_g20 ?q_l20 ?q_c20 ?q_k20 ?q_g21 ?q_l21 ?q_c21 ?q_k21 ?q_g22 ?q_l22 ?q_c22 ?q_k22 ?q_g23 ?q_l23 ?q_c23 ?q_k23 ?q_z_abs ?q_z_all ?q_z_bool ?q_z_int ?q_z_isinstance ?q_z_len ?q_z_list ?q_z_max ?q_z_min ?q_z_range ?q_z_sorted ?q_z_tuple ?q_z_zip ?q_y_MOST_SEATS
    (case q_g0 => k_is)
    (case q_l0 => k_is)
    (case q_c0 => k_is)
    (case q_k0 => k_is)
    (case q_g1 => k_is)
    (case q_l1 => k_is)
    (case q_c1 => k_is)
    (case q_k1 => k_is)
    (case q_g2 => k_is)
    (case q_l2 => k_is)
    (case q_c2 => k_is)
    (case q_k2 => k_is)
    (case q_g3 => k_is)
    (case q_l3 => k_is)
    (case q_c3 => k_is)
    (case q_k3 => k_is)
    (case q_g4 => k_is)
    (case q_l4 => k_is)
    (case q_c4 => k_is)
    (case q_k4 => k_is)
    (case q_g5 => k_is)
    (case q_l5 => k_is)
    (case q_c5 => k_is)
    (case q_k5 => k_is)
    (case q_g6 => k_is)
    (case q_l6 => k_is)
    (case q_c6 => k_is)
    (case q_k6 => k_is)
    (case q_g7 => k_is)
    (case q_l7 => k_is)
    (case q_c7 => k_is)
    (case q_k7 => k_is)
    (case q_g8 => k_is)
    (case q_l8 => k_is)
    (case q_c8 => k_is)
    (case q_k8 => k_is)
    (case q_g9 => k_is)
    (case q_l9 => k_is)
    (case q_c9 => k_is)
    (case q_k9 => k_is)
    (case q_g10 => k_is)
    (case q_l10 => k_is)
    (case q_c10 => k_is)
    (case q_k10 => k_is)
    (case q_g11 => k_is)
    (case q_l11 => k_is)
    (case q_c11 => k_is)
    (case q_k11 => k_is)
    (case q_g12 => k_is)
    (case q_l12 => k_is)
    (case q_c12 => k_is)
    (case q_k12 => k_is)
    (case q_g13 => k_is)
    (case q_l13 => k_is)
    (case q_c13 => k_is)
    (case q_k13 => k_is)
    (case q_g14 => k_is)
    (case q_l14 => k_is)
    (case q_c14 => k_is)
    (case q_k14 => k_is)
    (case q_g15 => k_is)
    (case q_l15 => k_is)
    (case q_c15 => k_is)
    (case q_k15 => k_is)
    (case q_g16 => k_is)
    (case q_l16 => k_is)
    (case q_c16 => k_is)
    (case q_k16 => k_is)
    (case q_g17 => k_is)
    (case q_l17 => k_is)
    (case q_c17 => k_is)
    (case q_k17 => k_is)
    (case q_g18 => k_is)
    (case q_l18 => k_is)
    (case q_c18 => k_is)
    (case q_k18 => k_is)
    (case q_g19 => k_is)
    (case q_l19 => k_is)
    (case q_c19 => k_is)
    (case q_k19 => k_is)
    (case q_g20 => k_is)
    (case q_l20 => k_is)
    (case q_c20 => k_is)
    (case q_k20 => k_is)
    (case q_g21 => k_is)
    (case q_l21 => k_is)
    (case q_c21 => k_is)
    (case q_k21 => k_is)
    (case q_g22 => k_is)
    (case q_l22 => k_is)
    (case q_c22 => k_is)
    (case q_k22 => k_is)
    (case q_g23 => k_is)
    (case q_l23 => k_is)
    (case q_c23 => k_is)
    (case q_k23 => k_is)
    (case q_z_abs => k_is)
    (case q_z_all => k_is)
    (case q_z_bool => k_is)
    (case q_z_int => k_is)
    (case q_z_isinstance => k_is)
    (case q_z_len => k_is)
    (case q_z_list => k_is)
    (case q_z_max => k_is)
    (case q_z_min => k_is)
    (case q_z_range => k_is)
    (case q_z_sorted => k_is)
    (case q_z_tuple => k_is)
    (case q_z_zip => k_is)
    (case q_y_MOST_SEATS => k_is)
end
