import PyProof.Rows.All
import Wide.All
import OpenK.AllK
import Wide.FinOn
import KE.LtData
import KE.SortData
import KE.DataMinMax
import HandS.ForMost
import HandS.AnyAll
import HandS.Walk
import HandS.Deep
import KE.DataCmp
import KE.DataAny
import KE.DataIsa
import KE.DataEq
import KE.DataFind
import HandS.TupAny
import HandS.TupMul
import HandS.Wide
import HandS.Text
import HandS.SortInts
import HandS.Flow
import HandS.TupLen
import HandS.DictComp
import HandS.Head0
import HandS.Head1
import HandS.Head2
import HandS.HeadEnd
import HandS.HeadHook1
import HandS.HeadHook2
import PySem.Challenge.RW_wordmoot_k47_whole_searches_with_one_lie
set_option Elab.async false
set_option linter.all false
set_option maxRecDepth 100000
set_option maxHeartbeats 4000000
/-! Dl1: data in the heap: what a value stands for, owned cells, the state of a def by data. -/
namespace Dl
open PySem PySem.Spec PyProof.Rows L2
abbrev Sl := List (Option V)

abbrev D := PyData
/-- no table of a code object -/
def NT : HO → Prop
  | .tbl _ => False
  | _ => True
def kD : Key → D
  | .inl i => .int i
  | .inr x => .str x
def tkD (k : List Key) : D := .tuple (k.map kD)
/-- the sign of a dict whose keys are tuples -/
def mk : D × D := (.dict [], .none)

mutual
inductive Rep (K : PySem.W.Frag) (H : Hp) (B : Addr → Prop) : V → D → Prop where
  | non : Rep K H B .non .none
  | bl (b : Bool) : Rep K H B (.bl b) (.bool b)
  | int (i : Int) : Rep K H B (.int i) (.int i)
  | str (x : Str) : Rep K H B (.str x) (.str x)
  | lst {a : Addr} {xs : List V} {ds : List D} : ¬ B a → Rd H a (.lst xs) → RepL K H B xs ds → Rep K H B (.ref a) (.list ds)
  | lstK {a : Addr} {xs : List V} {ds : List D} : SqL K (fun _ => none) a xs → RepL K H B xs ds → Rep K H B (.ref a) (.list ds)
  | tup {a : Addr} {xs : List V} {ds : List D} : ¬ B a → H a = some (.tup xs) → RepL K H B xs ds → Rep K H B (.ref a) (.tuple ds)
  | dicK {a : Addr} {kvs : List (Key × V)} {es : List (D × D)} : ¬ B a → H a = some (.dK kvs) → RepK K H B kvs es → Rep K H B (.ref a) (.dict es)
  | dicT {a : Addr} {kvs : List (List Key × V)} {es : List (D × D)} : ¬ B a → H a = some (.dT kvs) → RepT K H B kvs es → Rep K H B (.ref a) (.dict (mk :: es))
inductive RepL (K : PySem.W.Frag) (H : Hp) (B : Addr → Prop) : List V → List D → Prop where
  | nil : RepL K H B [] []
  | cons {v : V} {vs : List V} {d : D} {ds : List D} : Rep K H B v d → RepL K H B vs ds → RepL K H B (v :: vs) (d :: ds)
inductive RepK (K : PySem.W.Frag) (H : Hp) (B : Addr → Prop) : List (Key × V) → List (D × D) → Prop where
  | nil : RepK K H B [] []
  | cons {k : Key} {v : V} {r : List (Key × V)} {d : D} {r' : List (D × D)} : Rep K H B v d → RepK K H B r r' → RepK K H B ((k, v) :: r) ((kD k, d) :: r')
inductive RepT (K : PySem.W.Frag) (H : Hp) (B : Addr → Prop) : List (List Key × V) → List (D × D) → Prop where
  | nil : RepT K H B [] []
  | cons {k : List Key} {v : V} {r : List (List Key × V)} {d : D} {r' : List (D × D)} : Rep K H B v d → RepT K H B r r' → RepT K H B ((k, v) :: r) ((tkD k, d) :: r')
end

/-- the heap has grown: what stood stands (tables may have grown) -/
structure Ext (H H' : Hp) : Prop where
  keep : ∀ b o, H b = some o → NT o → H' b = some o
  tab : ∀ b ps, H b = some (.tbl ps) → ∃ ps', H' b = some (.tbl ps') ∧ (TriplesOk ps.toList → TriplesOk ps'.toList)
theorem Ext.refl (H : Hp) : Ext H H := ⟨fun _ _ h _ => h, fun _ ps h => ⟨ps, h, id⟩⟩
theorem Ext.trans {H H1 H2 : Hp} (a : Ext H H1) (b : Ext H1 H2) : Ext H H2 :=
  ⟨fun c o h n => b.keep c o (a.keep c o h n) n, fun c ps h => by
    obtain ⟨p1, h1, t1⟩ := a.tab c ps h
    obtain ⟨p2, h2, t2⟩ := b.tab c p1 h1
    exact ⟨p2, h2, fun z => t2 (t1 z)⟩⟩
theorem Ext.some {H H' : Hp} (e : Ext H H') {a : Addr} (h : ∃ o, H a = some o) : ∃ o, H' a = some o := by
  obtain ⟨o, h⟩ := h
  cases o with
  | tbl ps =>
    obtain ⟨p', h', _⟩ := e.tab a ps h
    exact ⟨_, h'⟩
  | _ => exact ⟨_, e.keep a _ h trivial⟩
theorem Ext.free {H H' : Hp} (e : Ext H H') {a : Addr} (h : H' a = none) : H a = none := by
  cases q : H a with
  | none => rfl
  | some o =>
    obtain ⟨o', h'⟩ := e.some ⟨o, q⟩
    rw [h] at h'
    cases h'
theorem Ext.of_same {H H' : Hp} (s : Same H H') : Ext H H' := ⟨fun b o h _ => s b o h, fun b ps h => ⟨ps, s b _ h, id⟩⟩
theorem ext_upd {H : Hp} {p : Addr} {o : HO} (h : H p = none) : Ext H (upd H p o) := Ext.of_same fun b x e => by
  rw [upd_ne (ne_of_none e h)]
  exact e
theorem Ext.rd {H H' : Hp} (e : Ext H H') {a : Addr} {u : HO} (hu : NT u) (h : Rd H a u) : Rd H' a u := by
  rcases h with h | ⟨o, h⟩
  · exact .inl (e.keep _ _ h hu)
  · exact .inr ⟨o, e.keep _ _ h trivial⟩
theorem Ext.seq {K : PySem.W.Frag} {H H' : Hp} {a : Addr} {xs : List V} (e : Ext H H') (h : SqL K H a xs) : SqL K H' a xs := by
  rcases h with h | h
  · exact .inl (e.rd (by trivial) h)
  · exact .inr h
theorem Ext.tup {K : PySem.W.Frag} {H H' : Hp} {a : Addr} {xs : List V} (e : Ext H H') (h : SqT K H a xs) : SqT K H' a xs := by
  rcases h with h | h
  · exact .inl (e.rd (by trivial) h)
  · exact .inr h

theorem knL {K : PySem.W.Frag} {H : Hp} {a : Addr} {xs : List V} (h : SqL K (fun _ => none) a xs) : SqL K H a xs := by
  rcases h with h | h
  · rcases h with h | ⟨o, h⟩ <;> cases h
  · exact .inr h

/-- what stood in H and may be read there (not banned) can be read in H' -/
structure Moves (H : Hp) (B : Addr → Prop) (H' : Hp) (B' : Addr → Prop) : Prop where
  rd : ∀ a u, ¬ B a → NT u → H a = some u → H' a = some u ∧ ¬ B' a
theorem Moves.rd' {H : Hp} {B : Addr → Prop} {H' : Hp} {B' : Addr → Prop} (m : Moves H B H' B') {a : Addr} {u : HO} (n : ¬ B a) (hu : NT u) (h : Rd H a u) : Rd H' a u ∧ ¬ B' a := by
  rcases h with h | ⟨o, h⟩
  · exact ⟨.inl (m.rd a u n hu h).1, (m.rd a u n hu h).2⟩
  · have q := m.rd a _ n (by trivial) h
    exact ⟨.inr ⟨o, q.1⟩, q.2⟩

section
variable {K : PySem.W.Frag} {H H' : Hp} {B B' : Addr → Prop}
mutual
theorem Rep.move (k : Moves H B H' B') : ∀ {v : V} {d : D}, Rep K H B v d → Rep K H' B' v d
  | _, _, .non => .non
  | _, _, .bl b => .bl b
  | _, _, .int i => .int i
  | _, _, .str x => .str x
  | _, _, .lst n h r => .lst (k.rd' n (by trivial) h).2 (k.rd' n (by trivial) h).1 (RepL.move k r)
  | _, _, .lstK h r => .lstK h (RepL.move k r)
  | _, _, .tup n h r => .tup (k.rd _ _ n (by trivial) h).2 (k.rd _ _ n (by trivial) h).1 (RepL.move k r)
  | _, _, .dicK n h r => .dicK (k.rd _ _ n (by trivial) h).2 (k.rd _ _ n (by trivial) h).1 (RepK.move k r)
  | _, _, .dicT n h r => .dicT (k.rd _ _ n (by trivial) h).2 (k.rd _ _ n (by trivial) h).1 (RepT.move k r)
theorem RepL.move (k : Moves H B H' B') : ∀ {v : List V} {d : List D}, RepL K H B v d → RepL K H' B' v d
  | _, _, .nil => .nil
  | _, _, .cons r t => .cons (Rep.move k r) (RepL.move k t)
theorem RepK.move (k : Moves H B H' B') : ∀ {v : List (Key × V)} {d : List (D × D)}, RepK K H B v d → RepK K H' B' v d
  | _, _, .nil => .nil
  | _, _, .cons r t => .cons (Rep.move k r) (RepK.move k t)
theorem RepT.move (k : Moves H B H' B') : ∀ {v : List (List Key × V)} {d : List (D × D)}, RepT K H B v d → RepT K H' B' v d
  | _, _, .nil => .nil
  | _, _, .cons r t => .cons (Rep.move k r) (RepT.move k t)
end
end
theorem Moves.ext {H H' : Hp} {B : Addr → Prop} (e : Ext H H') : Moves H B H' B := ⟨fun a u n hu h => ⟨e.keep a u h hu, n⟩⟩
theorem Moves.weak {H : Hp} {B B' : Addr → Prop} (h : ∀ a, B' a → B a) : Moves H B H B' := ⟨fun a u n _ e => ⟨e, fun z => n (h a z)⟩⟩
/-- a banned cell is written -/
theorem Moves.upd {H : Hp} {B : Addr → Prop} {a : Addr} {o : HO} (h : B a) : Moves H B (upd H a o) B := ⟨fun b u n _ e => ⟨by
  rw [upd_ne (fun z => n (by rw [z]; exact h))]
  exact e, n⟩⟩
/-- a ban of what was not there -/
theorem Moves.ban {H : Hp} {B B' : Addr → Prop} (h : ∀ a, B' a → B a ∨ H a = none) : Moves H B H B' := ⟨fun a u n _ e => ⟨e, fun z => by
  rcases h a z with z | z
  · exact n z
  · rw [e] at z
    cases z⟩⟩
theorem Moves.trans {H1 H2 H3 : Hp} {B1 B2 B3 : Addr → Prop} (a : Moves H1 B1 H2 B2) (b : Moves H2 B2 H3 B3) : Moves H1 B1 H3 B3 :=
  ⟨fun c u n hu e => b.rd c u (a.rd c u n hu e).2 hu (a.rd c u n hu e).1⟩

theorem RepL.length {K : PySem.W.Frag} {H : Hp} {B : Addr → Prop} : ∀ {vs : List V} {ds : List D}, RepL K H B vs ds → vs.length = ds.length
  | _, _, .nil => rfl
  | _, _, .cons _ t => congrArg (· + 1) (RepL.length t)
theorem RepL.app {K : PySem.W.Frag} {H : Hp} {B : Addr → Prop} : ∀ {vs ws : List V} {ds es : List D}, RepL K H B vs ds → RepL K H B ws es → RepL K H B (vs ++ ws) (ds ++ es)
  | _, _, _, _, .nil, s => s
  | _, _, _, _, .cons r t, s => .cons r (RepL.app t s)
theorem RepL.get {K : PySem.W.Frag} {H : Hp} {B : Addr → Prop} : ∀ {vs : List V} {ds : List D} {i : Nat} {d : D}, RepL K H B vs ds → ds[i]? = some d → ∃ v, vs[i]? = some v ∧ Rep K H B v d
  | _, _, _, _, .nil, h => by simp at h
  | _, _, 0, _, .cons r _, h => by
    simp at h
    subst h
    exact ⟨_, rfl, r⟩
  | _, _, i + 1, _, .cons _ t, h => by
    obtain ⟨v, h1, h2⟩ := RepL.get (i := i) t (by simpa using h)
    exact ⟨v, by simpa using h1, h2⟩
theorem RepL.getV {K : PySem.W.Frag} {H : Hp} {B : Addr → Prop} {vs : List V} {ds : List D} {i : Nat} {v : V} (r : RepL K H B vs ds) (h : vs[i]? = some v) : ∃ d, ds[i]? = some d ∧ Rep K H B v d := by
  have hl := r.length
  have hi : i < vs.length := (List.getElem?_eq_some_iff.mp h).1
  obtain ⟨v', h', r'⟩ := r.get (List.getElem?_eq_getElem (show i < ds.length by omega))
  rw [h] at h'
  cases h'
  exact ⟨_, List.getElem?_eq_getElem _, r'⟩
theorem RepL.take {K : PySem.W.Frag} {H : Hp} {B : Addr → Prop} : ∀ {vs : List V} {ds : List D} (n : Nat), RepL K H B vs ds → RepL K H B (vs.take n) (ds.take n)
  | _, _, 0, _ => .nil
  | _, _, _ + 1, .nil => .nil
  | _, _, n + 1, .cons r t => .cons r (RepL.take n t)
theorem RepL.drop {K : PySem.W.Frag} {H : Hp} {B : Addr → Prop} : ∀ {vs : List V} {ds : List D} (n : Nat), RepL K H B vs ds → RepL K H B (vs.drop n) (ds.drop n)
  | _, _, 0, r => r
  | _, _, _ + 1, .nil => .nil
  | _, _, n + 1, .cons _ t => RepL.drop n t
theorem RepL.set {K : PySem.W.Frag} {H : Hp} {B : Addr → Prop} {v : V} {d : D} (r : Rep K H B v d) : ∀ {vs : List V} {ds : List D} (n : Nat), RepL K H B vs ds → RepL K H B (vs.set n v) (ds.set n d)
  | _, _, _, .nil => .nil
  | _, _, 0, .cons _ t => .cons r t
  | _, _, n + 1, .cons q t => .cons q (RepL.set r n t)
theorem RepL.rev {K : PySem.W.Frag} {H : Hp} {B : Addr → Prop} : ∀ {vs : List V} {ds : List D}, RepL K H B vs ds → RepL K H B vs.reverse ds.reverse
  | _, _, .nil => .nil
  | _, _, .cons r t => by
    rw [List.reverse_cons, List.reverse_cons]
    exact RepL.app (RepL.rev t) (.cons r .nil)
theorem RepL.mem {K : PySem.W.Frag} {H : Hp} {B : Addr → Prop} : ∀ {vs : List V} {ds : List D} {v : V}, RepL K H B vs ds → v ∈ vs → ∃ d ∈ ds, Rep K H B v d
  | _, _, _, .nil, h => by simp at h
  | _, _, v, .cons (d := d) r t, h => by
    rcases List.mem_cons.mp h with e | h
    · subst e
      exact ⟨d, by simp, r⟩
    · obtain ⟨d', h1, h2⟩ := RepL.mem t h
      exact ⟨d', by simp [h1], h2⟩

/-- a cell that is a def's own -/
inductive OwnC (K : PySem.W.Frag) (H : Hp) (B : Addr → Prop) (a : Addr) : D → Prop where
  | lst {vs : List V} {ds : List D} : H a = some (.lst vs) → RepL K H B vs ds → OwnC K H B a (.list ds)
  | dicK {kvs : List (Key × V)} {es : List (D × D)} : H a = some (.dK kvs) → RepK K H B kvs es → OwnC K H B a (.dict es)
  | dicT {kvs : List (List Key × V)} {es : List (D × D)} : H a = some (.dT kvs) → RepT K H B kvs es → OwnC K H B a (.dict (mk :: es))
theorem OwnC.move {K : PySem.W.Frag} {H H' : Hp} {B B' : Addr → Prop} {a : Addr} {d : D} (k : Moves H B H' B') (h : ∀ u, NT u → H a = some u → H' a = some u) (o : OwnC K H B a d) : OwnC K H' B' a d := by
  cases o with
  | lst e r => exact .lst (h _ trivial e) (r.move k)
  | dicK e r => exact .dicK (h _ trivial e) (r.move k)
  | dicT e r => exact .dicT (h _ trivial e) (r.move k)
/-- it is shared from now on -/
theorem OwnC.share {K : PySem.W.Frag} {H : Hp} {B B' : Addr → Prop} {a : Addr} {d : D} (h : ∀ b, B' b → B b) (n : ¬ B' a) : OwnC K H B a d → Rep K H B' (.ref a) d
  | .lst e r => .lst n (.inl e) (r.move (.weak h))
  | .dicK e r => .dicK n e (r.move (.weak h))
  | .dicT e r => .dicT n e (r.move (.weak h))
theorem OwnC.tracked {K : PySem.W.Frag} {H : Hp} {B : Addr → Prop} {a : Addr} {d : D} : OwnC K H B a d → ∃ u, H a = some u ∧ NT u
  | .lst e r => ⟨_, e, trivial⟩
  | .dicK e r => ⟨_, e, trivial⟩
  | .dicT e r => ⟨_, e, trivial⟩

/-! ### the state of a def: its slots by data, with what it owns -/
abbrev Gm := List (Option (Bool × D))
abbrev AM := Nat → Option Addr
def Bn (F : Addr → Prop) (A : AM) : Addr → Prop := fun a => F a ∨ ∃ i, A i = some a
def cut (A : AM) (S : List Nat) : AM := fun i => if i ∈ S then none else A i
theorem cut_some {A : AM} {S : List Nat} {i : Nat} {a : Addr} (h : cut A S i = some a) : A i = some a ∧ i ∉ S := by
  unfold cut at h
  split at h
  · cases h
  · exact ⟨h, by assumption⟩
theorem cut_of {A : AM} {S : List Nat} {i : Nat} {a : Addr} (h : A i = some a) (n : i ∉ S) : cut A S i = some a := by
  unfold cut
  rw [if_neg n]
  exact h
theorem cut_nil {A : AM} : cut A [] = A := by
  funext i
  unfold cut
  rw [if_neg (by simp)]
theorem Bn.cut {F : Addr → Prop} {A : AM} {S : List Nat} {a : Addr} (h : Bn F (cut A S) a) : Bn F A a := by
  rcases h with h | ⟨i, h⟩
  · exact .inl h
  · exact .inr ⟨i, (cut_some h).1⟩
theorem Bn.cut_mono {F : Addr → Prop} {A : AM} {S S' : List Nat} (hs : ∀ i ∈ S, i ∈ S') {a : Addr} (h : Bn F (Dl.cut A S') a) : Bn F (Dl.cut A S) a := by
  rcases h with h | ⟨i, h⟩
  · exact .inl h
  · exact .inr ⟨i, cut_of (cut_some h).1 fun z => (cut_some h).2 (hs i z)⟩

/-- the constants of a whole walk -/
structure Cc where
  K : PySem.W.Frag
  tabs : List Addr

/-- F: what the callers own; H0: what stands at the entry (and is not the def's own) -/
structure StR (c : Cc) (F : Addr → Prop) (H0 H : Hp) (A : AM) (σ : Sl) (Γ : Gm) : Prop where
  len : σ.length = Γ.length
  inj : ∀ i j a, A i = some a → A j = some a → i = j
  new : ∀ i a, A i = some a → H0 a = none ∧ ¬ F a
  ftr : ∀ a, F a → ∃ o, H a = some o
  sl : ∀ i f d, Γ[i]? = some (some (f, d)) → if f = true then ∃ a, A i = some a ∧ σ[i]? = some (some (.ref a)) ∧ OwnC c.K H (Bn F A) a d else A i = none ∧ ∃ v, σ[i]? = some (some v) ∧ Rep c.K H (Bn F A) v d
  own : ∀ i a, A i = some a → ∃ d, Γ[i]? = some (some (true, d))
  ext : Ext H0 H
  tab : ∀ p ∈ c.tabs, GxR.TabG H p
section
variable {c : Cc} {F : Addr → Prop} {H0 H H' : Hp} {A : AM} {σ : Sl} {Γ : Gm}
theorem StR.val (S : StR c F H0 H A σ Γ) {i : Nat} {f : Bool} {d : D} (h : Γ[i]? = some (some (f, d))) : ∃ v, σ[i]? = some (some v) ∧ Rep c.K H (Bn F (cut A [i])) v d := by
  have q := S.sl i f d h
  cases f with
  | true =>
    rw [if_pos rfl] at q
    obtain ⟨a, h1, h2, h3⟩ := q
    refine ⟨_, h2, h3.share (fun b z => z.cut) ?_⟩
    rintro (z | ⟨j, z⟩)
    · exact (S.new i a h1).2 z
    · obtain ⟨z1, z2⟩ := cut_some z
      exact z2 (by rw [S.inj j i a z1 h1]; exact List.mem_cons_self)
  | false =>
    rw [if_neg Bool.false_ne_true] at q
    obtain ⟨_, v, h2, h3⟩ := q
    exact ⟨v, h2, h3.move (.weak fun b z => z.cut)⟩
theorem StR.grow (S : StR c F H0 H A σ Γ) (e : Ext H H') : StR c F H0 H' A σ Γ where
  len := S.len
  inj := S.inj
  new := S.new
  ftr := fun a h => e.some (S.ftr a h)
  sl := fun i f d h => by
    have q := S.sl i f d h
    cases f with
    | true =>
      rw [if_pos rfl] at q ⊢
      obtain ⟨a, h1, h2, h3⟩ := q
      exact ⟨a, h1, h2, h3.move (.ext e) fun u hu z => e.keep a u z hu⟩
    | false =>
      rw [if_neg Bool.false_ne_true] at q ⊢
      obtain ⟨h0, v, h2, h3⟩ := q
      exact ⟨h0, v, h2, h3.move (.ext e)⟩
  own := S.own
  ext := S.ext.trans e
  tab := fun p hp => by
    obtain ⟨ps, h, t⟩ := S.tab p hp
    obtain ⟨ps', h', t'⟩ := e.tab p ps h
    exact ⟨ps', h', t' t⟩
/-- what the def owns is tracked -/
theorem StR.btr (S : StR c F H0 H A σ Γ) {a : Addr} (h : Bn F A a) : ∃ o, H a = some o := by
  rcases h with h | ⟨i, h⟩
  · exact S.ftr a h
  · obtain ⟨d, hd⟩ := S.own i a h
    have q := S.sl i true d hd
    rw [if_pos rfl] at q
    obtain ⟨a', h1, _, h3⟩ := q
    rw [h] at h1
    cases h1
    obtain ⟨u, hu, _⟩ := h3.tracked
    exact ⟨u, hu⟩
theorem StR.free (S : StR c F H0 H A σ Γ) {p : Addr} (h : H p = none) : ¬ Bn F A p := fun z => by
  obtain ⟨o, e⟩ := S.btr z
  rw [h] at e
  cases e
/-- the entry may be taken later: all that stands but what is owned -/
noncomputable def rebase (H : Hp) (A : AM) : Hp := by
  classical
  exact fun b => if ∃ i, A i = some b then none else H b
theorem rebase_some {b : Addr} {o : HO} (h : rebase H A b = some o) : H b = some o ∧ ∀ i, A i ≠ some b := by
  unfold rebase at h
  split at h
  · cases h
  · exact ⟨h, fun i z => by rename_i n; exact n ⟨i, z⟩⟩
theorem rebase_of {b : Addr} {o : HO} (h : H b = some o) (n : ∀ i, A i ≠ some b) : rebase H A b = some o := by
  unfold rebase
  rw [if_neg (fun ⟨i, z⟩ => n i z)]
  exact h
theorem rebase_own {b : Addr} {i : Nat} (h : A i = some b) : rebase H A b = none := by
  unfold rebase
  rw [if_pos ⟨i, h⟩]
theorem rebase_ext : Ext (rebase H A) H := ⟨fun b o h _ => (rebase_some h).1, fun b ps h => ⟨ps, (rebase_some h).1, id⟩⟩
theorem StR.rebase (S : StR c F H0 H A σ Γ) : StR c F (Dl.rebase H A) H A σ Γ :=
  ⟨S.len, S.inj, fun i a h => ⟨rebase_own h, (S.new i a h).2⟩, S.ftr, S.sl, S.own, rebase_ext, S.tab⟩
theorem StR.below (S : StR c F H0 H A σ Γ) : Ext H0 (Dl.rebase H A) := by
  have nA : ∀ b o, H0 b = some o → ∀ i, A i ≠ some b := fun b o h i z => by
    rw [(S.new i b z).1] at h
    cases h
  refine ⟨fun b o h n => rebase_of (S.ext.keep b o h n) (nA b o h), fun b ps h => ?_⟩
  obtain ⟨p', h', t⟩ := S.ext.tab b ps h
  exact ⟨p', rebase_of h' (nA b _ h), t⟩
theorem StR.back {H1 : Hp} (S : StR c F H1 H A σ Γ) (e : Ext H0 H1) : StR c F H0 H A σ Γ :=
  ⟨S.len, S.inj, fun i a h => ⟨e.free (S.new i a h).1, (S.new i a h).2⟩, S.ftr, S.sl, S.own, e.trans S.ext, S.tab⟩
end
end Dl

set_option Elab.async false
set_option linter.all false
set_option maxRecDepth 100000
set_option maxHeartbeats 4000000
/-! Dl2: operators by data. -/
namespace Dl
open PySem PySem.Spec PyProof.Rows L2

/-! ### data as the library's rules want it -/
section
variable {K : PySem.W.Frag} {H : Hp} {B : Addr → Prop}
mutual
theorem Rep.dp : ∀ {v : V} {d : D}, Rep K H B v d → d.plain = true → Dp K H v d
  | _, _, .non, _ => .non
  | _, _, .bl b, _ => .bl b
  | _, _, .int i, _ => .int i
  | _, _, .str x, _ => .str x
  | _, _, .lst n h r, p => .lst (.inl h) (RepL.dp r (by simpa only [PyData.plain] using p))
  | _, _, .lstK h r, p => .lst (knL h) (RepL.dp r (by simpa only [PyData.plain] using p))
  | _, _, .tup n h r, p => .tup (.inl (.inl h)) (RepL.dp r (by simpa only [PyData.plain] using p))
  | _, _, .dicK n h r, p => by simp only [PyData.plain] at p; cases p
  | _, _, .dicT n h r, p => by simp only [PyData.plain] at p; cases p
theorem RepL.dp : ∀ {v : List V} {d : List D}, RepL K H B v d → PyData.plainAll d = true → DpAll K H v d
  | _, _, .nil, _ => .nil
  | _, _, .cons r t, p => by
    simp only [PyData.plainAll, Bool.and_eq_true] at p
    exact .cons (Rep.dp r p.1) (RepL.dp t p.2)
end
end
section
variable {X : Cx} {pins : List (Addr × Obj)} {σ : Sl} {H : Hp} {s : Shared} {B : Addr → Prop} {v : V} {vs : List V} {d : D} {ds : List D} {u : Value} {us : List Value}
theorem Rep.reads (r : Rep X.K H B v d) (I : Inv X pins σ H s) (p : d.plain = true) (h : RelV v u) : ∃ as, Reads s.heap u d as := Dp.reads I d v u (r.dp p) h
theorem RepL.reads (r : RepL X.K H B vs ds) (I : Inv X pins σ H s) (p : PyData.plainAll ds = true) (h : Vals vs us) : ∃ as, ReadsAll s.heap us ds as := Dp.readsAll I ds vs us (r.dp p) h
/-- a list, a tuple, as the library's rules want it -/
theorem Rep.list {a : Addr} (r : Rep X.K H B (.ref a) (.list ds)) (I : Inv X pins σ H s) : ∃ (xs : List V) (its : List Value), SqL X.K H a xs ∧ RepL X.K H B xs ds ∧ Vals xs its ∧ PlainL s.heap a its.toArray ∧ s.heap.IsList a its.toArray ∧ xs.length ≤ sizeLine := by
  have go : ∀ xs, SqL X.K H a xs → RepL X.K H B xs ds → ∃ (xs : List V) (its : List Value), SqL X.K H a xs ∧ RepL X.K H B xs ds ∧ Vals xs its ∧ PlainL s.heap a its.toArray ∧ s.heap.IsList a its.toArray ∧ xs.length ≤ sizeLine := fun xs h r => by
    obtain ⟨its, rv, ⟨o, n, ho, hc, hd, hdt⟩, hl⟩ := I.list h
    exact ⟨xs, its, h, r, rv, ⟨o, n, ho, hc, hd, hdt⟩, ⟨o, ho, hc, n, hdt⟩, hl⟩
  cases r with
  | lst n h r => exact go _ (.inl h) r
  | lstK h r => exact go _ (knL h) r
theorem Rep.tuple {a : Addr} (r : Rep X.K H B (.ref a) (.tuple ds)) (I : Inv X pins σ H s) : ∃ (xs : List V) (its : List Value), SqT X.K H a xs ∧ RepL X.K H B xs ds ∧ Vals xs its ∧ IsTup s.heap a its.toArray ∧ xs.length ≤ sizeLine := by
  cases r with
  | tup n h r =>
    obtain ⟨its, rv, ht, hl⟩ := I.tuple (.inl (.inl h))
    exact ⟨_, its, .inl (.inl h), r, rv, ht, hl⟩
/-- the kinds of values -/
theorem Rep.isInt {i : Int} (r : Rep X.K H B v (.int i)) : v = .int i := by cases r; rfl
theorem Rep.isStr {x : Str} (r : Rep X.K H B v (.str x)) : v = .str x := by cases r; rfl
theorem Rep.isBool {b : Bool} (r : Rep X.K H B v (.bool b)) : v = .bl b := by cases r; rfl
theorem Rep.isList {K : PySem.W.Frag} (r : Rep K H B v (.list ds)) : ∃ a, v = .ref a := by cases r <;> exact ⟨_, rfl⟩
theorem Rep.isTup {K : PySem.W.Frag} (r : Rep K H B v (.tuple ds)) : ∃ a, v = .ref a := by cases r; exact ⟨_, rfl⟩
end
theorem Rep.nonIff {K : PySem.W.Frag} {H : Hp} {B : Addr → Prop} {v : V} {d : D} (r : Rep K H B v d) : decide (v = .non) = (match d with | .none => true | _ => false) := by
  cases r <;> rfl
theorem Rep.anyB {K : PySem.W.Frag} {H H' : Hp} {B B' : Addr → Prop} {v : V} {d : D} (h : match d with | .none | .bool _ | .int _ | .str _ => True | _ => False) (r : Rep K H B v d) : Rep K H' B' v d := by
  cases r <;> first | exact h.elim | constructor

/-! ### what a step hands back -/
def isMut : D → Bool
  | .list _ => true
  | .dict _ => true
  | _ => false
def ResOk (c : Cc) (H H' : Hp) (B : Addr → Prop) (fr : Bool) (v : V) (d : D) : Prop :=
  Rep c.K H' B v d ∧ (fr = true → isMut d = true → ∃ a, v = .ref a ∧ H a = none ∧ OwnC c.K H' (fun b => B b ∨ b = a) a d)
theorem ResOk.plain {c : Cc} {H H' : Hp} {B : Addr → Prop} {fr : Bool} {v : V} {d : D} (r : Rep c.K H' B v d) (h : fr = true → isMut d = false) : ResOk c H H' B fr v d :=
  ⟨r, fun e m => by rw [h e] at m; cases m⟩
theorem ResOk.sh {c : Cc} {H H' : Hp} {B : Addr → Prop} {v : V} {d : D} (r : Rep c.K H' B v d) : ResOk c H H' B false v d := ⟨r, fun e => by cases e⟩
abbrev Trk (H : Hp) (B : Addr → Prop) : Prop := ∀ a, B a → ∃ o, H a = some o
theorem Trk.free {H : Hp} {B : Addr → Prop} (t : Trk H B) {p : Addr} (h : H p = none) : ¬ B p := fun z => by
  obtain ⟨o, e⟩ := t p z
  rw [h] at e
  cases e
/-- a new cell -/
theorem res_new {c : Cc} {H : Hp} {B : Addr → Prop} {fr : Bool} {p : Addr} {vs : List V} {ds : List D} (t : Trk H B) (hp : H p = none) (r : RepL c.K H B vs ds) : ResOk c H (upd H p (.lst vs)) B fr (.ref p) (.list ds) := by
  have r' : RepL c.K (upd H p (.lst vs)) (fun b => B b ∨ b = p) vs ds := r.move ((Moves.ban (B' := fun b => B b ∨ b = p) fun a z => z.elim .inl fun e => .inr (e ▸ hp)).trans (.ext (ext_upd hp)))
  exact ⟨.lst (t.free hp) (.inl upd_same) (r.move (.ext (ext_upd hp))), fun _ _ => ⟨p, rfl, hp, .lst upd_same r'⟩⟩
theorem res_tup {c : Cc} {H : Hp} {B : Addr → Prop} {fr : Bool} {p : Addr} {vs : List V} {ds : List D} (t : Trk H B) (hp : H p = none) (r : RepL c.K H B vs ds) : ResOk c H (upd H p (.tup vs)) B fr (.ref p) (.tuple ds) :=
  .plain (.tup (t.free hp) upd_same (r.move (.ext (ext_upd hp)))) fun _ => rfl
theorem Trk.ext {H H' : Hp} {B : Addr → Prop} (t : Trk H B) (e : Ext H H') : Trk H' B := fun a h => e.some (t a h)

/-- an operator of two, of one, of many values, by data -/
def rD2 (c : Cc) (fo : D → D → Option D) (fr : Bool) : R2 := fun x y H Q => ∃ (B : Addr → Prop) (da db d : D), Trk H B ∧ Rep c.K H B x da ∧ Rep c.K H B y db ∧ fo da db = some d ∧ ∀ v H', Ext H H' → ResOk c H H' B fr v d → Q v H'
def rD1 (c : Cc) (fo : D → Option D) (fr : Bool) : V → Hp → VK → Prop := fun x H Q => ∃ (B : Addr → Prop) (da d : D), Trk H B ∧ Rep c.K H B x da ∧ fo da = some d ∧ ∀ v H', Ext H H' → ResOk c H H' B fr v d → Q v H'
def rDN (c : Cc) (fo : List D → Option D) (fr : Bool) : List V → Hp → VK → Prop := fun xs H Q => ∃ (B : Addr → Prop) (da : List D) (d : D), Trk H B ∧ RepL c.K H B xs da ∧ fo da = some d ∧ ∀ v H', Ext H H' → ResOk c H H' B fr v d → Q v H'

/-! ### + - * // % ** -/
def fit (n : Nat) : Bool := decide (n ≤ 16777216)
theorem fit_size {n : Nat} (h : fit n = true) : n ≤ sizeLine := by
  have := of_decide_eq_true h
  rw [sizeLine_eq]
  exact this
def dAdd : D → D → Option D
  | .int i, .int j => some (.int (i + j))
  | .str a, .str b => if fit (a.length + b.length) then some (.str (a ++ b)) else none
  | .list a, .list b => if fit (a.length + b.length) then some (.list (a ++ b)) else none
  | .tuple a, .tuple b => if fit (a.length + b.length) then some (.tuple (a ++ b)) else none
  | _, _ => none
def dSub : D → D → Option D
  | .int i, .int j => some (.int (i - j))
  | _, _ => none
def mulOk (i j : Int) : Bool := decide (-2 ^ 64 < i ∧ i < 2 ^ 64 ∨ -2 ^ 64 < j ∧ j < 2 ^ 64)
def dMul : D → D → Option D
  | .int i, .int j => if mulOk i j then some (.int (i * j)) else none
  | _, _ => none
def divOk (j : Int) : Bool := decide (j ≠ 0 ∧ j.natAbs < 1073741824)
def dDiv : D → D → Option D
  | .int i, .int j => if divOk j then some (.int (i.fdiv j)) else none
  | _, _ => none
def dMod : D → D → Option D
  | .int i, .int j => if j ≠ 0 then some (.int (i.fmod j)) else none
  | _, _ => none
def powOk (i j : Int) : Bool := decide (0 ≤ j ∧ j ≤ 1000000 ∧ i.natAbs < 2 ^ 64)
def dPow : D → D → Option D
  | .int i, .int j => if powOk i j then some (.int (i ^ j.toNat)) else none
  | _, _ => none
section
variable {X : Cx} {c : Cc}
theorem op_catL (hK : X.K = c.K) {pins : List (Addr × Obj)} {σ : Sl} {H : Hp} {s : Shared} {B : Addr → Prop} {a b : Addr} {ds es : List D} {Q : VK} (I : Inv X pins σ H s) (ra : Rep c.K H B (.ref a) (.list ds)) (rb : Rep c.K H B (.ref b) (.list es))
    (hz : ds.length + es.length ≤ sizeLine) (q : ∀ (vs : List V) p, H p = none → RepL c.K H B vs (ds ++ es) → Q (.ref p) (upd H p (.lst vs))) : wpAny (model X.prog X.w) X.A (binaryOp .Add (.ref a) (.ref b)) (EP X pins σ Q) X.xe s := by
  rw [← hK] at ra rb q
  obtain ⟨xs, its, _, r1, v1, ⟨⟨cls, dd, data, sl⟩, n, ho, hc, _, hd⟩, il, l1⟩ := ra.list I
  obtain ⟨ys, its2, _, r2, v2, ⟨⟨cls2, dd2, data2, sl2⟩, n2, ho2, hc2, _, hd2⟩, il2, l2⟩ := rb.list I
  simp only at hc hd hc2 hd2
  subst hc hd hc2 hd2
  have e : its.toArray ++ its2.toArray = (its ++ its2).toArray := by simp
  have h1 := v1.length
  have h2 := v2.length
  have h3 := r1.length
  have h4 := r2.length
  refine concat_meets ⟨_, ho, rfl⟩ ⟨_, ho2, rfl⟩ noFill_list_add seq_list_add PySem.F.slot_list_add PySem.F.entry_list_add (PySem.F.args_list_add_2 _ _) (list_addW a b its.toArray its2.toArray n n2 dd dd2 sl sl2 (by simp only [List.size_toArray]; omega)) ⟨ho, ho2, ?_⟩
  rw [e]
  exact ⟨.ref _, _, I.lnew (t' := s.toks) (v1.append v2) (by rw [List.length_append]; omega), rfl, q _ _ I.fresh (r1.app r2)⟩
theorem od_add (hK : X.K = c.K) : OpR X (binaryOp .Add) (rD2 c dAdd true) := by
  intro pins s σ H x y v u Q I rx ry h
  obtain ⟨B, da, db, d, t, ra, rb, hf, q⟩ := h
  unfold dAdd at hf
  split at hf
  · cases hf
    cases ra
    cases rb
    exact op_add pins s σ H _ _ v u Q I rx ry ⟨_, _, rfl, rfl, q _ _ (.refl H) (.plain (.int _) fun _ => rfl)⟩
  · split at hf
    · rename_i hz
      cases hf
      cases ra
      cases rb
      exact op_add_str pins s σ H _ _ v u Q I rx ry ⟨_, _, rfl, rfl, fit_size hz, q _ _ (.refl H) (.plain (.str _) fun _ => rfl)⟩
    · cases hf
  · split at hf
    · rename_i hz
      cases hf
      obtain ⟨a, rfl⟩ := ra.isList
      obtain ⟨b, rfl⟩ := rb.isList
      cases rx
      cases ry
      exact op_catL hK I ra rb (fit_size hz) fun vs p hp r => q _ _ (ext_upd hp) (res_new t hp r)
    · cases hf
  · split at hf
    · rename_i hz
      cases hf
      have hz' := fit_size hz
      cases ra with
      | tup n1 h1 r1 =>
        cases rb with
        | tup n2 h2 r2 =>
          have l1 := r1.length
          have l2 := r2.length
          rename_i ds es a xs b ys
          refine op_catA pins s σ H _ _ v u Q I rx ry ⟨a, b, xs, ys, rfl, rfl, .inl (.inl h1), .inl (.inl h2), by omega, fun e => ?_, fun _ e => ?_, fun _ _ p hp => q _ _ (ext_upd hp) (res_tup t hp (r1.app r2))⟩
          · subst e
            cases r1
            exact q _ _ (.refl H) (.plain (.tup n2 h2 r2) fun _ => rfl)
          · subst e
            cases r2
            rw [List.append_nil] at q
            exact q _ _ (.refl H) (.plain (.tup n1 h1 r1) fun _ => rfl)
    · cases hf
  · cases hf
theorem od_sub : OpR X (binaryOp .Sub) (rD2 c dSub true) := by
  intro pins s σ H x y v u Q I rx ry h
  obtain ⟨B, da, db, d, t, ra, rb, hf, q⟩ := h
  unfold dSub at hf
  split at hf
  · cases hf
    cases ra
    cases rb
    exact op_sub pins s σ H _ _ v u Q I rx ry ⟨_, _, rfl, rfl, q _ _ (.refl H) (.plain (.int _) fun _ => rfl)⟩
  · cases hf
theorem od_mul : OpR X (binaryOp .Mult) (rD2 c dMul true) := by
  intro pins s σ H x y v u Q I rx ry h
  obtain ⟨B, da, db, d, t, ra, rb, hf, q⟩ := h
  unfold dMul at hf
  split at hf
  · split at hf
    · rename_i hz
      cases hf
      cases ra
      cases rb
      exact op_mul pins s σ H _ _ v u Q I rx ry ⟨_, _, rfl, rfl, by
        have hz' := of_decide_eq_true hz
        exact hz', q _ _ (.refl H) (.plain (.int _) fun _ => rfl)⟩
    · cases hf
  · cases hf
theorem od_div : OpR X (binaryOp .FloorDiv) (rD2 c dDiv true) := by
  intro pins s σ H x y v u Q I rx ry h
  obtain ⟨B, da, db, d, t, ra, rb, hf, q⟩ := h
  unfold dDiv at hf
  split at hf
  · split at hf
    · rename_i hz
      cases hf
      cases ra
      cases rb
      exact op_fdivN pins s σ H _ _ v u Q I rx ry ⟨_, _, rfl, rfl, by
        have hz' := of_decide_eq_true hz
        exact hz', q _ _ (.refl H) (.plain (.int _) fun _ => rfl)⟩
    · cases hf
  · cases hf
theorem od_mod : OpR X (binaryOp .Mod) (rD2 c dMod true) := by
  intro pins s σ H x y v u Q I rx ry h
  obtain ⟨B, da, db, d, t, ra, rb, hf, q⟩ := h
  unfold dMod at hf
  split at hf
  · split at hf
    · rename_i hz
      cases hf
      cases ra
      cases rb
      exact op_modN pins s σ H _ _ v u Q I rx ry ⟨_, _, rfl, rfl, hz, q _ _ (.refl H) (.plain (.int _) fun _ => rfl)⟩
    · cases hf
  · cases hf
theorem od_pow : OpR X (binaryOp .Pow) (rD2 c dPow true) := by
  intro pins s σ H x y v u Q I rx ry h
  obtain ⟨B, da, db, d, t, ra, rb, hf, q⟩ := h
  unfold dPow at hf
  split at hf
  · split at hf
    · rename_i hz
      cases hf
      cases ra
      cases rb
      exact op_pow pins s σ H _ _ v u Q I rx ry ⟨_, _, rfl, rfl, by
        have hz' := of_decide_eq_true hz
        exact hz', q _ _ (.refl H) (.plain (.int _) fun _ => rfl)⟩
    · cases hf
  · cases hf
end
end Dl

set_option Elab.async false
set_option linter.all false
set_option maxRecDepth 100000
set_option maxHeartbeats 4000000
/-! Dl3: comparisons, places, slices, built-in functions by data. -/
namespace Dl
open PySem PySem.Spec PyProof.Rows L2

/-! ### comparisons -/
def eqOk (a b : D) : Bool := a.plain && b.plain && decide (min a.depth b.depth ≤ 60)
def dEq (a b : D) : Option D := if eqOk a b then some (.bool (PyData.eqv a b)) else none
def dNe (a b : D) : Option D := if eqOk a b then some (.bool (!PyData.eqv a b)) else none
def notNone : D → Bool
  | .none => false
  | _ => true
def ltOk (a b : D) : Bool := PySem.W.alike a b && notNone a && a.plain && b.plain && decide (min a.depth b.depth ≤ 60)
def dLt (a b : D) : Option D := if ltOk a b then some (.bool (PySem.W.dataLt a b)) else none
def dGt (a b : D) : Option D := if ltOk a b then some (.bool (PySem.W.dataLt b a)) else none
def dLe (a b : D) : Option D := if ltOk a b then some (.bool (!PySem.W.dataLt b a)) else none
def dGe (a b : D) : Option D := if ltOk a b then some (.bool (!PySem.W.dataLt a b)) else none
theorem notNone_ne {a : D} (h : notNone a = true) : a ≠ .none := fun e => by rw [e] at h; cases h
section
variable {X : Cx} {c : Cc}
theorem od_cmp {op : CmpOp} {fo : D → D → Option D} (hK : X.K = c.K)
    (go : ∀ (s : Shared) (a b : Value) (da db d : D) (as bs : List Addr) (Q : Value → Shared → Prop), Reads s.heap a da as → Reads s.heap b db bs → fo da db = some d → (∀ z, d = .bool z → Q (.bool z) s) → wpAny (model X.prog X.w) X.A (compareOp op a b) Q X.xe s)
    (gd : ∀ da db d, fo da db = some d → da.plain = true ∧ db.plain = true ∧ ∃ z, d = .bool z) : OpR X (compareOp op) (rD2 c fo true) := by
  intro pins s σ H x y v u Q I rx ry h
  obtain ⟨B, da, db, d, t, ra, rb, hf, q⟩ := h
  obtain ⟨pa, pb, z, rfl⟩ := gd _ _ _ hf
  rw [← hK] at ra rb
  obtain ⟨as, r1⟩ := ra.reads I pa rx
  obtain ⟨bs, r2⟩ := rb.reads I pb ry
  refine go s v u da db _ as bs _ r1 r2 hf fun z' e => ?_
  cases e
  exact ⟨.bl _, H, I, rfl, q _ _ (.refl H) (.plain (.bl _) fun _ => rfl)⟩
theorem room60 {A : Around} {n : Nat} (hu : A.units + 64 < cLine) (h : n ≤ 60) : A.units + n < cLine := by omega
theorem eqOk_of {a b : D} (h : eqOk a b = true) : a.plain = true ∧ b.plain = true ∧ min a.depth b.depth ≤ 60 := by
  simp only [eqOk, Bool.and_eq_true, decide_eq_true_eq] at h
  exact ⟨h.1.1, h.1.2, h.2⟩
theorem ltOk_of {a b : D} (h : ltOk a b = true) : PySem.W.alike a b = true ∧ a ≠ .none ∧ a.plain = true ∧ b.plain = true ∧ min a.depth b.depth ≤ 60 := by
  simp only [ltOk, Bool.and_eq_true, decide_eq_true_eq] at h
  exact ⟨h.1.1.1.1, notNone_ne h.1.1.1.2, h.1.1.2, h.1.2, h.2⟩
theorem od_eq (hK : X.K = c.K) (hu : X.A.units + 64 < cLine) : OpR X (compareOp .Eq) (rD2 c dEq true) := by
  refine od_cmp hK (fun s a b da db d as bs Q r1 r2 hf q => ?_) (fun da db d hf => ?_) <;> unfold dEq at hf <;> split at hf <;> first | (cases hf; done) | skip
  · rename_i h
    cases hf
    obtain ⟨p1, p2, h3⟩ := eqOk_of h
    exact SeqAt.eq_plain r1 r2 p1 p2 (room60 hu h3) (q _ rfl)
  · rename_i h
    cases hf
    obtain ⟨p1, p2, h3⟩ := eqOk_of h
    exact ⟨p1, p2, _, rfl⟩
theorem od_ne (hK : X.K = c.K) (hu : X.A.units + 64 < cLine) : OpR X (compareOp .NotEq) (rD2 c dNe true) := by
  refine od_cmp hK (fun s a b da db d as bs Q r1 r2 hf q => ?_) (fun da db d hf => ?_) <;> unfold dNe at hf <;> split at hf <;> first | (cases hf; done) | skip
  · rename_i h
    cases hf
    obtain ⟨p1, p2, h3⟩ := eqOk_of h
    exact SeqAt.ne_plain r1 r2 p1 p2 (room60 hu h3) (q _ rfl)
  · rename_i h
    cases hf
    obtain ⟨p1, p2, h3⟩ := eqOk_of h
    exact ⟨p1, p2, _, rfl⟩
theorem od_lt (hK : X.K = c.K) (hu : X.A.units + 64 < cLine) : OpR X (compareOp .Lt) (rD2 c dLt true) := by
  refine od_cmp hK (fun s a b da db d as bs Q r1 r2 hf q => ?_) (fun da db d hf => ?_) <;> unfold dLt at hf <;> split at hf <;> first | (cases hf; done) | skip
  · rename_i h
    cases hf
    obtain ⟨h1, h2, p1, p2, h3⟩ := ltOk_of h
    exact PySem.W.lt_data r1 r2 h1 h2 (room60 hu h3) (q _ rfl)
  · rename_i h
    cases hf
    obtain ⟨h1, h2, p1, p2, h3⟩ := ltOk_of h
    exact ⟨p1, p2, _, rfl⟩
theorem od_gt (hK : X.K = c.K) (hu : X.A.units + 64 < cLine) : OpR X (compareOp .Gt) (rD2 c dGt true) := by
  refine od_cmp hK (fun s a b da db d as bs Q r1 r2 hf q => ?_) (fun da db d hf => ?_) <;> unfold dGt at hf <;> split at hf <;> first | (cases hf; done) | skip
  · rename_i h
    cases hf
    obtain ⟨h1, h2, p1, p2, h3⟩ := ltOk_of h
    exact PySem.W.gt_data r1 r2 h1 h2 (room60 hu h3) (q _ rfl)
  · rename_i h
    cases hf
    obtain ⟨h1, h2, p1, p2, h3⟩ := ltOk_of h
    exact ⟨p1, p2, _, rfl⟩
theorem od_le (hK : X.K = c.K) (hu : X.A.units + 64 < cLine) : OpR X (compareOp .LtE) (rD2 c dLe true) := by
  refine od_cmp hK (fun s a b da db d as bs Q r1 r2 hf q => ?_) (fun da db d hf => ?_) <;> unfold dLe at hf <;> split at hf <;> first | (cases hf; done) | skip
  · rename_i h
    cases hf
    obtain ⟨h1, h2, p1, p2, h3⟩ := ltOk_of h
    exact PySem.W.le_data r1 r2 h1 h2 (room60 hu h3) (q _ rfl)
  · rename_i h
    cases hf
    obtain ⟨h1, h2, p1, p2, h3⟩ := ltOk_of h
    exact ⟨p1, p2, _, rfl⟩
theorem od_ge (hK : X.K = c.K) (hu : X.A.units + 64 < cLine) : OpR X (compareOp .GtE) (rD2 c dGe true) := by
  refine od_cmp hK (fun s a b da db d as bs Q r1 r2 hf q => ?_) (fun da db d hf => ?_) <;> unfold dGe at hf <;> split at hf <;> first | (cases hf; done) | skip
  · rename_i h
    cases hf
    obtain ⟨h1, h2, p1, p2, h3⟩ := ltOk_of h
    exact PySem.W.ge_data r1 r2 h1 h2 (room60 hu h3) (q _ rfl)
  · rename_i h
    cases hf
    obtain ⟨h1, h2, p1, p2, h3⟩ := ltOk_of h
    exact ⟨p1, p2, _, rfl⟩
/-- x is None, x is not None (the right one written) -/
def isNon : D → Bool
  | .none => true
  | _ => false
def dIs (a b : D) : Option D := match b with
  | .none => some (.bool (isNon a))
  | _ => none
def dIsNot (a b : D) : Option D := match b with
  | .none => some (.bool (!isNon a))
  | _ => none
theorem rep_isNon {K : PySem.W.Frag} {H : Hp} {B : Addr → Prop} {v : V} {d : D} (r : Rep K H B v d) : decide (v = .non) = isNon d := by cases r <;> rfl
theorem od_is : OpR X (compareOp .Is) (rD2 c dIs true) := by
  intro pins s σ H x y v u Q I rx ry h
  obtain ⟨B, da, db, d, t, ra, rb, hf, q⟩ := h
  unfold dIs at hf
  split at hf
  · cases hf
    cases rb
    refine op_isN pins s σ H _ _ v u Q I rx ry ⟨rfl, ?_⟩
    rw [rep_isNon ra]
    exact q _ _ (.refl H) (.plain (.bl _) fun _ => rfl)
  · cases hf
theorem od_isnot : OpR X (compareOp .IsNot) (rD2 c dIsNot true) := by
  intro pins s σ H x y v u Q I rx ry h
  obtain ⟨B, da, db, d, t, ra, rb, hf, q⟩ := h
  unfold dIsNot at hf
  split at hf
  · cases hf
    cases rb
    refine op_notN pins s σ H _ _ v u Q I rx ry ⟨rfl, ?_⟩
    rw [rep_isNon ra]
    exact q _ _ (.refl H) (.plain (.bl _) fun _ => rfl)
  · cases hf

/-! ### dicts by their keys -/
def toKey : D → Option Key
  | .int i => some (.inl i)
  | .str x => some (.inr x)
  | _ => none
theorem toKey_of {d : D} {k : Key} (h : toKey d = some k) : d = kD k := by
  cases d <;> cases h <;> rfl
def toKeys : List D → Option (List Key)
  | [] => some []
  | d :: ds => (toKey d).bind fun k => (toKeys ds).map fun ks => k :: ks
theorem toKeys_of : ∀ {ds : List D} {ks : List Key}, toKeys ds = some ks → ds = ks.map kD
  | [], ks, h => by cases h; rfl
  | d :: ds, ks, h => by
    unfold toKeys at h
    cases e : toKey d with
    | none => rw [e] at h; cases h
    | some k =>
      cases e2 : toKeys ds with
      | none => rw [e, e2] at h; cases h
      | some r =>
        rw [e, e2] at h
        cases h
        rw [toKey_of e, toKeys_of e2]
        rfl
/-- the value at a key -/
def dLook (es : List (D × D)) (k : D) : Option D := (es.find? fun e => PyData.eqv e.1 k).map (·.2)
def flat : List (D × D) → Bool
  | (.dict _, _) :: _ => false
  | _ => true
/-- what a dict says of a key: none where it is no such dict or key -/
def dAsk : D → D → Option (Option D)
  | .dict es, .tuple ks => match es with
    | (.dict [], .none) :: r => if (toKeys ks).isSome then some (dLook r (.tuple ks)) else none
    | _ => none
  | .dict es, k => if flat es && (toKey k).isSome then some (dLook es k) else none
  | _, _ => none
theorem eqv_kD (a b : Key) : PyData.eqv (kD a) (kD b) = decide (a = b) := by
  cases a <;> cases b <;> simp only [kD, PyData.eqv]
  · rw [key_ll]
  · rw [key_lr]
  · rw [key_rl]
  · rw [key_rr, Bool.beq_eq_decide_eq]
theorem eqvAll_kD : ∀ a b : List Key, PyData.eqvAll (a.map kD) (b.map kD) = decide (a = b)
  | [], [] => by simp [PyData.eqvAll]
  | [], _ :: _ => by simp [PyData.eqvAll]
  | _ :: _, [] => by simp [PyData.eqvAll]
  | x :: xs, y :: ys => by
    rw [List.map_cons, List.map_cons, PyData.eqvAll, eqv_kD, eqvAll_kD xs ys, ← Bool.decide_and]
    exact decide_eq_decide.mpr (by rw [List.cons.injEq])
theorem eqv_tkD (a b : List Key) : PyData.eqv (tkD a) (tkD b) = decide (a = b) := by
  unfold tkD
  rw [PyData.eqv, eqvAll_kD]
theorem RepK.look {K : PySem.W.Frag} {H : Hp} {B : Addr → Prop} (k : Key) : ∀ {kvs : List (Key × V)} {es : List (D × D)}, RepK K H B kvs es → match valV kvs k with
    | some v => ∃ d, dLook es (kD k) = some d ∧ Rep K H B v d
    | none => dLook es (kD k) = none
  | _, _, .nil => rfl
  | _, _, .cons (k := k') (v := v) (r := r) (d := d) (r' := r') h t => by
    have ih := RepK.look k t
    by_cases e : k' = k
    · rw [valV_pos (p := (k', v)) e]
      exact ⟨d, by simp [dLook, eqv_kD, e], h⟩
    · rw [valV_neg (p := (k', v)) e]
      have e2 : dLook ((kD k', d) :: r') (kD k) = dLook r' (kD k) := by simp [dLook, eqv_kD, e]
      rw [e2]
      exact ih
theorem RepT.look {K : PySem.W.Frag} {H : Hp} {B : Addr → Prop} (k : List Key) : ∀ {kvs : List (List Key × V)} {es : List (D × D)}, RepT K H B kvs es → match valV kvs k with
    | some v => ∃ d, dLook es (tkD k) = some d ∧ Rep K H B v d
    | none => dLook es (tkD k) = none
  | _, _, .nil => rfl
  | _, _, .cons (k := k') (v := v) (r := r) (d := d) (r' := r') h t => by
    have ih := RepT.look k t
    by_cases e : k' = k
    · rw [valV_pos (p := (k', v)) e]
      exact ⟨d, by simp [dLook, eqv_tkD, e], h⟩
    · rw [valV_neg (p := (k', v)) e]
      have e2 : dLook ((tkD k', d) :: r') (tkD k) = dLook r' (tkD k) := by simp [dLook, eqv_tkD, e]
      rw [e2]
      exact ih
theorem Rep.key {K : PySem.W.Frag} {H : Hp} {B : Addr → Prop} {v : V} {k : Key} (r : Rep K H B v (kD k)) : v = kV k := by
  cases k <;> (unfold kD at r; cases r; rfl)
theorem RepL.keys {K : PySem.W.Frag} {H : Hp} {B : Addr → Prop} : ∀ {vs : List V} {ks : List Key}, RepL K H B vs (ks.map kD) → vs = ks.map kV
  | [], [], _ => rfl
  | v :: vs, k :: ks, h => by
    cases h with
    | cons r t => rw [r.key, t.keys]; rfl
/-- a tuple of keys stands there, tracked as such -/
theorem Rep.tkey {K : PySem.W.Frag} {H : Hp} {B : Addr → Prop} {v : V} {ks : List Key} (r : Rep K H B v (.tuple (ks.map kD))) : ∃ b, v = .ref b ∧ H b = some (.tup (ks.map kV)) := by
  cases r with
  | tup n h r => exact ⟨_, rfl, by rw [← r.keys]; exact h⟩
end
end Dl

set_option Elab.async false
set_option linter.all false
set_option maxRecDepth 100000
set_option maxHeartbeats 4000000
/-! Dl4: dicts asked, places, slices, built-in functions by data. -/
namespace Dl
open PySem PySem.Spec PyProof.Rows L2
section
variable {X : Cx} {c : Cc}
def AskOk (c : Cc) (H : Hp) (B : Addr → Prop) (o : Option D) (ov : Option V) : Prop := match o with
  | none => ov = none
  | some d => ∃ v, ov = some v ∧ Rep c.K H B v d
theorem AskOk.isSome {H : Hp} {B : Addr → Prop} {o : Option D} {ov : Option V} (h : AskOk c H B o ov) : ov.isSome = o.isSome := by
  cases o with
  | none =>
    have e : ov = none := h
    rw [e]
    rfl
  | some d =>
    obtain ⟨v, rfl, _⟩ := h
    rfl
theorem RepK.flat {K : PySem.W.Frag} {H : Hp} {B : Addr → Prop} {kvs : List (Key × V)} {es : List (D × D)} (r : RepK K H B kvs es) : Dl.flat es = true := by
  cases r with
  | nil => rfl
  | cons h t => rename_i k v r d r'; cases k <;> rfl
theorem ask_ok {H : Hp} {B : Addr → Prop} {x y : V} {d k : D} {o : Option D} (rx : Rep c.K H B x d) (ry : Rep c.K H B y k) (h : dAsk d k = some o) : ∃ a ov, x = .ref a ∧ DGet H a y ov ∧ AskOk c H B o ov := by
  cases d with
  | dict es =>
    have fl : ∀ kk, toKey k = some kk → dAsk (.dict es) k = some o → flat es = true ∧ o = dLook es k := fun kk e h => by
      cases k <;> first | (cases e; done) | skip
      all_goals (simp only [dAsk, toKey, Option.isSome_some, Bool.and_true] at h; split at h <;> first | exact ⟨by assumption, (Option.some.inj h).symm⟩ | cases h)
    have go : ∀ kk, toKey k = some kk → ∃ a ov, x = .ref a ∧ DGet H a y ov ∧ AskOk c H B o ov := fun kk e => by
      obtain ⟨h1, h2⟩ := fl kk e h
      have ek := toKey_of e
      subst ek
      have ey := ry.key
      subst ey
      cases rx with
      | dicK n hH r =>
        refine ⟨_, _, rfl, DGet.k hH, ?_⟩
        have q := r.look kk
        rw [h2]
        unfold AskOk
        revert q
        cases valV _ kk with
        | none => intro q; simp only at q; rw [q]
        | some v =>
          rintro ⟨d, e1, e2⟩
          rw [e1]
          exact ⟨v, rfl, e2⟩
      | dicT n hH r => cases h1
    cases k with
    | int i => exact go _ rfl
    | str z => exact go _ rfl
    | tuple ks =>
      simp only [dAsk] at h
      split at h
      · rename_i r0
        split at h
        · rename_i hk
          cases h
          cases hks : toKeys ks with
          | none => rw [hks] at hk; cases hk
          | some kk =>
            have ek := toKeys_of hks
            subst ek
            obtain ⟨b, rfl, hb⟩ := ry.tkey
            cases rx with
            | dicK n hH r => cases r.flat
            | dicT n hH r =>
              refine ⟨_, _, rfl, DGet.t hH hb, ?_⟩
              have q := r.look kk
              unfold tkD at q
              unfold AskOk
              revert q
              cases valV _ kk with
              | none => intro q; simp only at q; rw [q]
              | some v =>
                rintro ⟨d, e1, e2⟩
                rw [e1]
                exact ⟨v, rfl, e2⟩
        · cases h
      · cases h
    | none => simp [dAsk, toKey] at h
    | bool b => simp [dAsk, toKey] at h
    | list _ => simp [dAsk, toKey] at h
    | dict _ => simp [dAsk, toKey] at h
  | none => simp [dAsk] at h
  | bool _ => simp [dAsk] at h
  | int _ => simp [dAsk] at h
  | str _ => simp [dAsk] at h
  | list _ => simp [dAsk] at h
  | tuple _ => simp [dAsk] at h

/-! ### x in c -/
def inOk (x : D) (ds : List D) : Bool := PyData.plainAll ds && x.plain && decide (min (PyData.depthAll ds) x.depth ≤ 60)
def dHas (x c : D) : Option Bool := match c with
  | .list ds => if inOk x ds then some (ds.any fun y => PyData.eqv y x) else none
  | .tuple ds => if inOk x ds then some (ds.any fun y => PyData.eqv y x) else none
  | .str z => match x with
    | .str w => match w.cps.toList with
      | [a] => some (decide (a ∈ z.cps.toList))
      | _ => none
    | _ => none
  | .dict es => (dAsk (.dict es) x).map Option.isSome
  | _ => none
def dIn (x c : D) : Option D := (dHas x c).map .bool
def dNotIn (x c : D) : Option D := (dHas x c).map fun b => .bool (!b)
theorem inOk_of {x : D} {ds : List D} (h : inOk x ds = true) : PyData.plainAll ds = true ∧ x.plain = true ∧ min (PyData.depthAll ds) x.depth ≤ 60 := by
  simp only [inOk, Bool.and_eq_true, decide_eq_true_eq] at h
  exact ⟨h.1.1, h.1.2, h.2⟩
theorem str_one {w : Str} {a : Nat} (h : w.cps.toList = [a]) : w = ⟨#[a]⟩ := by
  obtain ⟨cps⟩ := w
  have : cps = #[a] := by
    apply Array.toList_inj.mp
    exact h
  rw [this]
theorem od_has {b : Bool} {pins : List (Addr × Obj)} {σ : Sl} {H : Hp} {s : Shared} {x y : V} {v u : Value} {Q : VK} {B : Addr → Prop} {dx dc : D} (hK : X.K = c.K) (hu : X.A.units + 66 < cLine) (I : Inv X pins σ H s) (rx : RelV x v) (ry : RelV y u)
    (ra : Rep c.K H B x dx) (rb : Rep c.K H B y dc) (hf : dHas dx dc = some b) (q : ∀ z, z = b → Q (.bl z) H) (q2 : ∀ z, z = !b → Q (.bl z) H → True) : wpAny (model X.prog X.w) X.A (compareOp .In v u) (EP X pins σ Q) X.xe s := by
  have q := q b rfl
  cases dc with
  | list ds =>
    simp only [dHas] at hf
    split at hf
    · rename_i h
      cases hf
      obtain ⟨p1, p2, h3⟩ := inOk_of h
      obtain ⟨as, r1⟩ := (hK ▸ ra).reads I p2 rx
      obtain ⟨bs, r2⟩ := (hK ▸ rb).reads I (by simpa only [PyData.plain] using p1) ry
      exact SeqAt.in_list_data r2 r1 p1 p2 (by omega) ⟨.bl _, H, I, rfl, q⟩
    · cases hf
  | tuple ds =>
    simp only [dHas] at hf
    split at hf
    · rename_i h
      cases hf
      obtain ⟨p1, p2, h3⟩ := inOk_of h
      obtain ⟨as, r1⟩ := (hK ▸ ra).reads I p2 rx
      obtain ⟨bs, r2⟩ := (hK ▸ rb).reads I (by simpa only [PyData.plain] using p1) ry
      exact SeqAt.in_tuple_data r2 r1 p1 p2 (by omega) ⟨.bl _, H, I, rfl, q⟩
    · cases hf
  | str z =>
    simp only [dHas] at hf
    split at hf
    · split at hf
      · rename_i w a hw
        cases hf
        have ew := str_one hw
        subst ew
        cases ra
        cases rb
        refine wpAny_mono (op_in_sign pins s σ H _ _ v u _ I rx ry ⟨a, z, rfl, rfl, q⟩) (fun _ _ z => z) fun _ _ z => z
      · cases hf
    · cases hf
  | dict es =>
    simp only [dHas] at hf
    cases e : dAsk (.dict es) dx with
    | none => rw [e] at hf; cases hf
    | some o =>
      rw [e] at hf
      cases hf
      obtain ⟨a, ov, rfl, g, ok⟩ := ask_ok rb ra e
      cases ry
      refine d_in (by omega) I g rx fun s' I' => ?_
      rw [ok.isSome]
      exact ⟨.bl _, H, I', rfl, q⟩
  | none => simp [dHas] at hf
  | bool _ => simp [dHas] at hf
  | int _ => simp [dHas] at hf
theorem od_nhas {b : Bool} {pins : List (Addr × Obj)} {σ : Sl} {H : Hp} {s : Shared} {x y : V} {v u : Value} {Q : VK} {B : Addr → Prop} {dx dc : D} (hK : X.K = c.K) (hu : X.A.units + 66 < cLine) (I : Inv X pins σ H s) (rx : RelV x v) (ry : RelV y u)
    (ra : Rep c.K H B x dx) (rb : Rep c.K H B y dc) (hf : dHas dx dc = some b) (q : Q (.bl (!b)) H) : wpAny (model X.prog X.w) X.A (compareOp .NotIn v u) (EP X pins σ Q) X.xe s := by
  cases dc with
  | list ds =>
    simp only [dHas] at hf
    split at hf
    · rename_i h
      cases hf
      obtain ⟨p1, p2, h3⟩ := inOk_of h
      obtain ⟨as, r1⟩ := (hK ▸ ra).reads I p2 rx
      obtain ⟨bs, r2⟩ := (hK ▸ rb).reads I (by simpa only [PyData.plain] using p1) ry
      exact SeqAt.notIn_list_data r2 r1 p1 p2 (by omega) ⟨.bl _, H, I, rfl, q⟩
    · cases hf
  | tuple ds =>
    simp only [dHas] at hf
    split at hf
    · rename_i h
      cases hf
      obtain ⟨p1, p2, h3⟩ := inOk_of h
      obtain ⟨as, r1⟩ := (hK ▸ ra).reads I p2 rx
      obtain ⟨bs, r2⟩ := (hK ▸ rb).reads I (by simpa only [PyData.plain] using p1) ry
      exact SeqAt.notIn_tuple_data r2 r1 p1 p2 (by omega) ⟨.bl _, H, I, rfl, q⟩
    · cases hf
  | str z =>
    simp only [dHas] at hf
    split at hf
    · split at hf
      · rename_i w a hw
        cases hf
        have ew := str_one hw
        subst ew
        cases ra
        cases rb
        exact op_notIn_sign pins s σ H _ _ v u _ I rx ry ⟨a, z, rfl, rfl, q⟩
      · cases hf
    · cases hf
  | dict es =>
    simp only [dHas] at hf
    cases e : dAsk (.dict es) dx with
    | none => rw [e] at hf; cases hf
    | some o =>
      rw [e] at hf
      cases hf
      obtain ⟨a, ov, rfl, g, ok⟩ := ask_ok rb ra e
      cases ry
      refine d_notIn (by omega) I g rx fun s' I' => ?_
      rw [ok.isSome]
      exact ⟨.bl _, H, I', rfl, q⟩
  | none => simp [dHas] at hf
  | bool _ => simp [dHas] at hf
  | int _ => simp [dHas] at hf
theorem od_in (hK : X.K = c.K) (hu : X.A.units + 66 < cLine) : OpR X (compareOp .In) (rD2 c dIn true) := by
  intro pins s σ H x y v u Q I rx ry h
  obtain ⟨B, da, db, d, t, ra, rb, hf, q⟩ := h
  unfold dIn at hf
  cases e : dHas da db with
  | none => rw [e] at hf; cases hf
  | some b =>
    rw [e] at hf
    cases hf
    exact od_has hK hu I rx ry ra rb e (fun z hz => by subst hz; exact q _ _ (.refl H) (.plain (.bl _) fun _ => rfl)) fun _ _ _ => trivial
theorem od_notin (hK : X.K = c.K) (hu : X.A.units + 66 < cLine) : OpR X (compareOp .NotIn) (rD2 c dNotIn true) := by
  intro pins s σ H x y v u Q I rx ry h
  obtain ⟨B, da, db, d, t, ra, rb, hf, q⟩ := h
  unfold dNotIn at hf
  cases e : dHas da db with
  | none => rw [e] at hf; cases hf
  | some b =>
    rw [e] at hf
    cases hf
    exact od_nhas hK hu I rx ry ra rb e (q _ _ (.refl H) (.plain (.bl _) fun _ => rfl))

/-! ### places and slices -/
def dIdx (x i : D) : Option D := match x, i with
  | .list ds, .int i => atI ds i
  | .tuple ds, .int i => atI ds i
  | .str z, .int i => if fit z.length then (atI z.cps.toList i).map fun a => .str ⟨#[a]⟩ else none
  | _, _ => none
theorem atI_rep {K : PySem.W.Frag} {H : Hp} {B : Addr → Prop} {vs : List V} {ds : List D} {i : Int} {d : D} (r : RepL K H B vs ds) (h : atI ds i = some d) : ∃ v, atI vs i = some v ∧ Rep K H B v d := by
  unfold atI at h ⊢
  rw [r.length]
  cases e : ixN ds.length i with
  | none => rw [e] at h; cases h
  | some j =>
    rw [e] at h
    exact r.get h
theorem od_idx (hK : X.K = c.K) : IxR X (rD2 c dIdx false) := by
  intro ve se pins s σ H x y v u Q I rx ry h
  obtain ⟨B, da, db, d, t, ra, rb, hf, q⟩ := h
  unfold dIdx at hf
  split at hf
  · cases rb
    obtain ⟨a, rfl⟩ := ra.isList
    obtain ⟨xs, its, h1, h2, _⟩ := (hK ▸ ra).list I
    obtain ⟨w, e1, e2⟩ := atI_rep h2 hf
    exact ix_list ve se pins s σ H _ _ v u Q I rx ry ⟨a, xs, _, w, rfl, rfl, h1, e1, q _ _ (.refl H) (.sh (hK ▸ e2))⟩
  · cases rb
    obtain ⟨a, rfl⟩ := ra.isTup
    obtain ⟨xs, its, h1, h2, _⟩ := (hK ▸ ra).tuple I
    obtain ⟨w, e1, e2⟩ := atI_rep h2 hf
    exact ix_tup ve se pins s σ H _ _ v u Q I rx ry ⟨a, xs, _, w, rfl, rfl, h1, e1, q _ _ (.refl H) (.sh (hK ▸ e2))⟩
  · split at hf
    · rename_i hz
      cases ra
      cases rb
      rename_i z i
      cases e : atI z.cps.toList i with
      | none => rw [e] at hf; cases hf
      | some a =>
        rw [e] at hf
        cases hf
        exact ix_str ve se pins s σ H _ _ v u Q I rx ry ⟨z, i, a, rfl, rfl, fit_size hz, e, q _ _ (.refl H) (.sh (.str _))⟩
    · cases hf
  · cases hf
def cutL {α : Type} (xs : List α) (lo hi : Option Int) : List α := (xs.drop (HT.sIx xs.length 0 lo)).take (HT.sIx xs.length xs.length hi - HT.sIx xs.length 0 lo)
theorem cutL_rep {K : PySem.W.Frag} {H : Hp} {B : Addr → Prop} {vs : List V} {ds : List D} {lo hi : Option Int} (r : RepL K H B vs ds) : RepL K H B (cutV vs lo hi) (cutL ds lo hi) := by
  unfold cutV cutL
  rw [r.length]
  exact (r.drop _).take _
def dSlc (x : D) (lo hi : Option Int) : Option D := match x with
  | .list ds => some (.list (cutL ds lo hi))
  | .tuple ds => some (.tuple (cutL ds lo hi))
  | .str z => if fit z.length then some (.str (cutS z lo hi)) else none
  | _ => none
def rDS (c : Cc) (fo : D → Option Int → Option Int → Option D) (fr : Bool) : V → Option Int → Option Int → Hp → VK → Prop := fun x lo hi H Q =>
  ∃ (B : Addr → Prop) (da d : D), Trk H B ∧ Rep c.K H B x da ∧ fo da lo hi = some d ∧ ∀ v H', Ext H H' → ResOk c H H' B fr v d → Q v H'
theorem SlR.of {r r' : V → Option Int → Option Int → Hp → VK → Prop} (h : SlR X r) (i : ∀ x lo hi H Q, r' x lo hi H Q → r x lo hi H Q) : SlR X r' := fun pins s σ H x v vl vu lo hi sl Q I rx a b d q => h pins s σ H x v vl vu lo hi sl Q I rx a b d (i _ _ _ _ _ q)
theorem od_slc (hK : X.K = c.K) : SlR X (rDS c dSlc true) := by
  refine SlR.of (SlR.or sl_list (SlR.or sl_tupA sl_str)) fun x lo hi H Q h => ?_
  obtain ⟨B, da, d, t, ra, hf, q⟩ := h
  rw [hK]
  unfold dSlc at hf
  split at hf
  · cases hf
    cases ra with
    | lst n h r => exact .inl ⟨_, _, rfl, .inl h, fun p hp => q _ _ (ext_upd hp) (res_new t hp (cutL_rep r))⟩
    | lstK h r => exact .inl ⟨_, _, rfl, knL h, fun p hp => q _ _ (ext_upd hp) (res_new t hp (cutL_rep r))⟩
  · cases hf
    cases ra with
    | tup n h r =>
      refine .inr (.inl ⟨_, _, rfl, .inl (.inl h), fun e => ?_, fun _ p hp => q _ _ (ext_upd hp) (res_tup t hp (cutL_rep r))⟩)
      rename_i ds a xs
      have hl := r.length
      have ec : cutL ds lo hi = ds := by
        unfold cutL
        rw [← hl, e.1, e.2]
        simp [hl]
      rw [ec] at q
      exact q _ _ (.refl H) (.plain (.tup n h r) fun _ => rfl)
  · split at hf
    · rename_i hz
      cases hf
      cases ra
      exact .inr (.inr ⟨_, rfl, fit_size hz, q _ _ (.refl H) (.plain (.str _) fun _ => rfl)⟩)
    · cases hf
  · cases hf
end
end Dl

set_option Elab.async false
set_option linter.all false
set_option maxRecDepth 100000
set_option maxHeartbeats 4000000
/-! Dl5: built-in functions by data. -/
namespace Dl
open PySem PySem.Spec PyProof.Rows L2
section
variable {X : Cx} {c : Cc}
theorem CallR.of {f : Value} {r r' : List V → Hp → VK → Prop} (h : CallR X f r) (i : ∀ xs H Q, r' xs H Q → r xs H Q) : CallR X f r' := fun pins s σ H xs us Q I rv q => h pins s σ H xs us Q I rv (i _ _ _ q)
theorem RepL.one {K : PySem.W.Frag} {H : Hp} {B : Addr → Prop} {vs : List V} {d : D} (r : RepL K H B vs [d]) : ∃ v, vs = [v] ∧ Rep K H B v d := by
  cases r with
  | cons r t => cases t; exact ⟨_, rfl, r⟩
theorem RepL.two {K : PySem.W.Frag} {H : Hp} {B : Addr → Prop} {vs : List V} {d e : D} (r : RepL K H B vs [d, e]) : ∃ v w, vs = [v, w] ∧ Rep K H B v d ∧ Rep K H B w e := by
  cases r with
  | cons r t =>
    obtain ⟨w, rfl, r2⟩ := t.one
    exact ⟨_, w, rfl, r, r2⟩
theorem RepK.length {K : PySem.W.Frag} {H : Hp} {B : Addr → Prop} : ∀ {vs : List (Key × V)} {ds : List (D × D)}, RepK K H B vs ds → vs.length = ds.length
  | _, _, .nil => rfl
  | _, _, .cons _ t => congrArg (· + 1) (RepK.length t)
theorem RepT.length {K : PySem.W.Frag} {H : Hp} {B : Addr → Prop} : ∀ {vs : List (List Key × V)} {ds : List (D × D)}, RepT K H B vs ds → vs.length = ds.length
  | _, _, .nil => rfl
  | _, _, .cons _ t => congrArg (· + 1) (RepT.length t)
theorem unVals1 {v : V} {us : List Value} (r : Vals [v] us) : ∃ u, us = [u] ∧ RelV v u := by
  cases r with
  | cons a b => cases b; exact ⟨_, rfl, a⟩

/-! ### len -/
def dLen : List D → Option D
  | [.str z] => if fit z.length then some (.int z.length) else none
  | [.list ds] => some (.int ds.length)
  | [.tuple ds] => some (.int ds.length)
  | [.dict es] => if flat es then some (.int es.length) else match es with
    | (.dict [], .none) :: r => some (.int r.length)
    | _ => none
  | _ => none
theorem od_len (hK : X.K = c.K) : CallR X (.builtin "len") (rDN c dLen true) := by
  · refine CallR.of (CallR.or call_len (CallR.or call_lenD call_len_dT)) fun xs H Q h => ?_
    obtain ⟨B, da, d, t, ra, hf, q⟩ := h
    rw [hK]
    unfold dLen at hf
    split at hf
    · split at hf
      · rename_i hz
        cases hf
        obtain ⟨v, rfl, r⟩ := ra.one
        cases r
        exact .inl ⟨_, _, rfl, ⟨fit_size hz, rfl⟩, q _ _ (.refl H) (.plain (.int _) fun _ => rfl)⟩
      · cases hf
    · cases hf
      obtain ⟨v, rfl, r⟩ := ra.one
      cases r with
      | lst n h r => exact .inl ⟨_, _, rfl, .inl ⟨_, .inl h, r.length.symm⟩, q _ _ (.refl H) (.plain (.int _) fun _ => rfl)⟩
      | lstK h r => exact .inl ⟨_, _, rfl, .inl ⟨_, knL h, r.length.symm⟩, q _ _ (.refl H) (.plain (.int _) fun _ => rfl)⟩
    · cases hf
      obtain ⟨v, rfl, r⟩ := ra.one
      cases r with
      | tup n h r => exact .inl ⟨_, _, rfl, .inr ⟨_, .inl (.inl h), r.length.symm⟩, q _ _ (.refl H) (.plain (.int _) fun _ => rfl)⟩
    · obtain ⟨v, rfl, r⟩ := ra.one
      split at hf
      · rename_i hfl
        cases hf
        cases r with
        | dicK n h r =>
          refine .inr (.inl ⟨_, _, rfl, h, ?_⟩)
          rw [r.length]
          exact q _ _ (.refl H) (.plain (.int _) fun _ => rfl)
        | dicT n h r => cases hfl
      · split at hf
        · cases hf
          cases r with
          | dicK n h r => cases r.flat
          | dicT n h r =>
            refine .inr (.inr ⟨_, _, rfl, h, ?_⟩)
            rw [r.length]
            exact q _ _ (.refl H) (.plain (.int _) fun _ => rfl)
        · cases hf
    · cases hf

/-! ### int, abs, tuple, list, sum, all, any -/
def dAbs : List D → Option D
  | [.int i] => some (.int (if i < 0 then -i else i))
  | _ => none
theorem od_abs : CallR X (.builtin "abs") (rDN c dAbs true) := by
  refine CallR.of call_abs fun xs H Q h => ?_
  obtain ⟨B, da, d, t, ra, hf, q⟩ := h
  unfold dAbs at hf
  split at hf
  · cases hf
    obtain ⟨v, rfl, r⟩ := ra.one
    cases r
    exact ⟨_, rfl, q _ _ (.refl H) (.plain (.int _) fun _ => rfl)⟩
  · cases hf
def dInt : List D → Option D
  | [.int i] => some (.int i)
  | _ => none
theorem od_int : CallR X (.type "int") (rDN c dInt true) := by
  refine CallR.of call_int1 fun xs H Q h => ?_
  obtain ⟨B, da, d, t, ra, hf, q⟩ := h
  unfold dInt at hf
  split at hf
  · cases hf
    obtain ⟨v, rfl, r⟩ := ra.one
    cases r
    exact .inl ⟨_, rfl, q _ _ (.refl H) (.plain (.int _) fun _ => rfl)⟩
  · cases hf
def dTuple : List D → Option D
  | [.list ds] => some (.tuple ds)
  | [.tuple ds] => some (.tuple ds)
  | _ => none
theorem od_tuple (hK : X.K = c.K) : CallR X (.type "tuple") (rDN c dTuple true) := by
  refine CallR.of call_tuple_of fun xs H Q h => ?_
  obtain ⟨B, da, d, t, ra, hf, q⟩ := h
  rw [hK]
  unfold dTuple at hf
  split at hf
  · cases hf
    obtain ⟨v, rfl, r⟩ := ra.one
    cases r with
    | lst n h r => exact ⟨_, _, rfl, .inl ⟨.inl h, fun l hl => q _ _ (ext_upd hl) (res_tup t hl r)⟩⟩
    | lstK h r => exact ⟨_, _, rfl, .inl ⟨knL h, fun l hl => q _ _ (ext_upd hl) (res_tup t hl r)⟩⟩
  · cases hf
    obtain ⟨v, rfl, r⟩ := ra.one
    cases r with
    | tup n h r => exact ⟨_, _, rfl, .inr ⟨.inl (.inl h), q _ _ (.refl H) (.plain (.tup n h r) fun _ => rfl)⟩⟩
  · cases hf
def dList : List D → Option D
  | [.list ds] => some (.list ds)
  | [.tuple ds] => some (.list ds)
  | _ => none
theorem od_list (hK : X.K = c.K) : CallR X (.type "list") (rDN c dList true) := by
  refine CallR.of call_list_of fun xs H Q h => ?_
  obtain ⟨B, da, d, t, ra, hf, q⟩ := h
  rw [hK]
  unfold dList at hf
  split at hf
  · cases hf
    obtain ⟨v, rfl, r⟩ := ra.one
    cases r with
    | lst n h r => exact ⟨_, _, rfl, .inl (.inl h), fun l hl => q _ _ (ext_upd hl) (res_new t hl r)⟩
    | lstK h r => exact ⟨_, _, rfl, .inl (knL h), fun l hl => q _ _ (ext_upd hl) (res_new t hl r)⟩
  · cases hf
    obtain ⟨v, rfl, r⟩ := ra.one
    cases r with
    | tup n h r => exact ⟨_, _, rfl, .inr (.inl (.inl h)), fun l hl => q _ _ (ext_upd hl) (res_new t hl r)⟩
  · cases hf
def asInts : List D → Option (List Int)
  | [] => some []
  | .int i :: r => (asInts r).map fun is => i :: is
  | _ :: _ => none
def asBools : List D → Option (List Bool)
  | [] => some []
  | .bool i :: r => (asBools r).map fun is => i :: is
  | _ :: _ => none
theorem RepL.ints {K : PySem.W.Frag} {H : Hp} {B : Addr → Prop} : ∀ {vs : List V} {ds : List D} {ns : List Int}, RepL K H B vs ds → asInts ds = some ns → vs = ns.map V.int
  | _, _, _, .nil, h => by cases h; rfl
  | _, _, _, .cons (d := d) (ds := ds) r t, h => by
    cases d with
    | int i =>
      unfold asInts at h
      cases e : asInts ds with
      | none => rw [e] at h; cases h
      | some is =>
        rw [e] at h
        cases h
        cases r
        rw [t.ints e]
        rfl
    | _ => cases h
theorem RepL.bools {K : PySem.W.Frag} {H : Hp} {B : Addr → Prop} : ∀ {vs : List V} {ds : List D} {ns : List Bool}, RepL K H B vs ds → asBools ds = some ns → vs = ns.map V.bl
  | _, _, _, .nil, h => by cases h; rfl
  | _, _, _, .cons (d := d) (ds := ds) r t, h => by
    cases d with
    | bool i =>
      unfold asBools at h
      cases e : asBools ds with
      | none => rw [e] at h; cases h
      | some is =>
        rw [e] at h
        cases h
        cases r
        rw [t.bools e]
        rfl
    | _ => cases h
theorem Rep.seqL {K : PySem.W.Frag} {H : Hp} {B : Addr → Prop} {v : V} {ds : List D} (r : Rep K H B v (.list ds)) : ∃ a xs, v = .ref a ∧ SqL K H a xs ∧ RepL K H B xs ds := by
  cases r with
  | lst n h r => exact ⟨_, _, rfl, .inl h, r⟩
  | lstK h r => exact ⟨_, _, rfl, knL h, r⟩
theorem Rep.seqT {K : PySem.W.Frag} {H : Hp} {B : Addr → Prop} {v : V} {ds : List D} (r : Rep K H B v (.tuple ds)) : ∃ a xs, v = .ref a ∧ SqT K H a xs ∧ RepL K H B xs ds := by
  cases r with
  | tup n h r => exact ⟨_, _, rfl, .inl (.inl h), r⟩
def dSum : List D → Option D
  | [.list ds] => (asInts ds).map fun ns => .int ns.sum
  | _ => none
theorem od_sum (hK : X.K = c.K) (hc : X.calm = true) : CallR X (.builtin "sum") (rDN c dSum true) := by
  refine CallR.of (cr_sum hc) fun xs H Q h => ?_
  obtain ⟨B, da, d, t, ra, hf, q⟩ := h
  rw [hK]
  unfold dSum at hf
  split at hf
  · rename_i ds
    obtain ⟨v, rfl, r⟩ := ra.one
    obtain ⟨a, xs, rfl, h1, h2⟩ := r.seqL
    cases e : asInts ds with
    | none => rw [e] at hf; cases hf
    | some ns =>
      rw [e] at hf
      cases hf
      exact ⟨a, ns, rfl, by rw [← h2.ints e]; exact h1, q _ _ (.refl H) (.plain (.int _) fun _ => rfl)⟩
  · cases hf
def dAll : List D → Option D
  | [.list ds] => (asBools ds).map fun ns => .bool (ns.all id)
  | _ => none
theorem od_all (hK : X.K = c.K) (hc : X.calm = true) : CallR X (.builtin "all") (rDN c dAll true) := by
  refine CallR.of (cr_all hc) fun xs H Q h => ?_
  obtain ⟨B, da, d, t, ra, hf, q⟩ := h
  rw [hK]
  unfold dAll at hf
  split at hf
  · rename_i ds
    obtain ⟨v, rfl, r⟩ := ra.one
    obtain ⟨a, xs, rfl, h1, h2⟩ := r.seqL
    cases e : asBools ds with
    | none => rw [e] at hf; cases hf
    | some ns =>
      rw [e] at hf
      cases hf
      exact ⟨a, ns, rfl, by rw [← h2.bools e]; exact h1, q _ _ (.refl H) (.plain (.bl _) fun _ => rfl)⟩
  · cases hf
def dAny : List D → Option D
  | [.list ds] => (asBools ds).map fun ns => .bool (ns.any id)
  | _ => none
theorem od_any (hK : X.K = c.K) (hc : X.calm = true) : CallR X (.builtin "any") (rDN c dAny true) := by
  refine CallR.of (cr_any hc) fun xs H Q h => ?_
  obtain ⟨B, da, d, t, ra, hf, q⟩ := h
  rw [hK]
  unfold dAny at hf
  split at hf
  · rename_i ds
    obtain ⟨v, rfl, r⟩ := ra.one
    obtain ⟨a, xs, rfl, h1, h2⟩ := r.seqL
    cases e : asBools ds with
    | none => rw [e] at hf; cases hf
    | some ns =>
      rw [e] at hf
      cases hf
      exact ⟨a, ns, rfl, by rw [← h2.bools e]; exact h1, q _ _ (.refl H) (.plain (.bl _) fun _ => rfl)⟩
  · cases hf

/-! ### min, max -/
def alikeOk (ds : List D) : Bool := (ds.all fun a => ds.all fun b => PySem.W.alike a b) && ds.all notNone && PyData.plainAll ds && decide (PyData.depthAll ds ≤ 60)
theorem alikeOk_of {ds : List D} (h : alikeOk ds = true) : PySem.W.AlikeAll ds ∧ PyData.plainAll ds = true ∧ PyData.depthAll ds ≤ 60 := by
  simp only [alikeOk, Bool.and_eq_true, List.all_eq_true, decide_eq_true_eq] at h
  exact ⟨⟨h.1.1.1, fun x hx => notNone_ne (h.1.1.2 x hx)⟩, h.1.2, h.2⟩
def dMin : List D → Option D
  | [.list (d :: ds)] => if alikeOk (d :: ds) then some (PySem.W.minD d ds) else none
  | [.tuple (d :: ds)] => if alikeOk (d :: ds) then some (PySem.W.minD d ds) else none
  | [.int i, .int j] => some (.int (if j < i then j else i))
  | _ => none
def dMax : List D → Option D
  | [.list (d :: ds)] => if alikeOk (d :: ds) then some (PySem.W.maxD d ds) else none
  | [.tuple (d :: ds)] => if alikeOk (d :: ds) then some (PySem.W.maxD d ds) else none
  | [.int i, .int j] => some (.int (if j > i then j else i))
  | _ => none
/-- the item that was found -/
theorem pick_ok {pins : List (Addr × Obj)} {σ : Sl} {H : Hp} {s : Shared} {Q : VK} {B : Addr → Prop} {xs : List V} {its : List Value} {ds : List D} {e : D} (hK : X.K = c.K) (I : Inv X pins σ H s) (r : RepL X.K H B xs ds) (rv : Vals xs its) (hp : PyData.plainAll ds = true)
    (q : ∀ v H', Ext H H' → ResOk c H H' B false v e → Q v H') {i : Nat} {u : Value} {h' : Heap} {tk : Nat} {bs : List Addr} (hi : its[i]? = some u) (hr : Reads h' u e bs) (hk : ∀ b o, s.heap.get? b = some o → h'.get? b = some o) :
    EP X pins σ Q u { s with heap := h', toks := tk } := by
  have I' := I.kept (t' := tk) hk
  have hl := rv.length
  have hi' : i < xs.length := by
    have := (List.getElem?_eq_some_iff.mp hi).1
    omega
  obtain ⟨u', e1, e2⟩ := rv.get (List.getElem?_eq_getElem hi')
  rw [hi] at e1
  cases e1
  obtain ⟨d, e3, e4⟩ := r.getV (List.getElem?_eq_getElem hi')
  have hd : d.plain = true := PySem.W.plain_mem hp (List.mem_of_getElem? e3)
  obtain ⟨as, e5⟩ := e4.reads I' hd e2
  have := SeqAt.plain_unique d e u as bs hd e5 hr
  subst this
  exact ⟨_, H, I', e2, q _ _ (.refl H) (.sh (hK ▸ e4))⟩
theorem minD_mem (d : D) : ∀ ds : List D, PySem.W.minD d ds ∈ d :: ds := by
  intro ds
  unfold PySem.W.minD
  induction ds generalizing d with
  | nil => simp
  | cons e r ih =>
    rw [List.foldl_cons]
    split
    · have := ih e
      simp only [List.mem_cons] at this ⊢
      exact .inr this
    · have := ih d
      simp only [List.mem_cons] at this ⊢
      rcases this with h | h
      · exact .inl h
      · exact .inr (.inr h)
theorem maxD_mem (d : D) : ∀ ds : List D, PySem.W.maxD d ds ∈ d :: ds := by
  intro ds
  unfold PySem.W.maxD
  induction ds generalizing d with
  | nil => simp
  | cons e r ih =>
    rw [List.foldl_cons]
    split
    · have := ih e
      simp only [List.mem_cons] at this ⊢
      exact .inr this
    · have := ih d
      simp only [List.mem_cons] at this ⊢
      rcases this with h | h
      · exact .inl h
      · exact .inr (.inr h)
theorem od_min (hK : X.K = c.K) (hc : X.calm = true) (hu : X.A.units + 66 < cLine) : CallR X (.builtin "min") (rDN c dMin false) := by
  intro pins s σ H xs us Q I rv h
  obtain ⟨B, da, d, t, ra, hf, q⟩ := h
  unfold dMin at hf
  split at hf
  · split at hf
    · rename_i hs
      cases hf
      obtain ⟨h1, h2, h3⟩ := alikeOk_of hs
      obtain ⟨v, rfl, r⟩ := ra.one
      obtain ⟨a, rfl⟩ := r.isList
      obtain ⟨u, rfl, ru⟩ := unVals1 rv
      cases ru
      obtain ⟨ys, its, e1, e2, e3, ep, il, e4⟩ := (hK ▸ r).list I
      obtain ⟨as, rr⟩ := e2.reads I h2 e3
      exact PySem.W.min_list_data (I.ok.hd hc) il rr h1 (by omega) fun i u h' tk bs hi hr hk => pick_ok hK I e2 e3 h2 q (by simpa using hi) hr hk
    · cases hf
  · split at hf
    · rename_i hs
      cases hf
      obtain ⟨h1, h2, h3⟩ := alikeOk_of hs
      obtain ⟨v, rfl, r⟩ := ra.one
      obtain ⟨a, rfl⟩ := r.isTup
      obtain ⟨u, rfl, ru⟩ := unVals1 rv
      cases ru
      obtain ⟨ys, its, e1, e2, e3, il, e4⟩ := (hK ▸ r).tuple I
      obtain ⟨as, rr⟩ := e2.reads I h2 e3
      exact PySem.W.min_tuple_data (I.ok.hd hc) il rr h1 (by omega) fun i u h' tk bs hi hr hk => pick_ok hK I e2 e3 h2 q (by simpa using hi) hr hk
    · cases hf
  · cases hf
    obtain ⟨v, w, rfl, r1, r2⟩ := ra.two
    cases r1
    cases r2
    exact call_min2 hc pins s σ H _ us Q I rv ⟨_, _, rfl, q _ _ (.refl H) (.sh (.int _))⟩
  · cases hf
theorem od_max (hK : X.K = c.K) (hc : X.calm = true) (hu : X.A.units + 66 < cLine) : CallR X (.builtin "max") (rDN c dMax false) := by
  intro pins s σ H xs us Q I rv h
  obtain ⟨B, da, d, t, ra, hf, q⟩ := h
  unfold dMax at hf
  split at hf
  · split at hf
    · rename_i hs
      cases hf
      obtain ⟨h1, h2, h3⟩ := alikeOk_of hs
      obtain ⟨v, rfl, r⟩ := ra.one
      obtain ⟨a, rfl⟩ := r.isList
      obtain ⟨u, rfl, ru⟩ := unVals1 rv
      cases ru
      obtain ⟨ys, its, e1, e2, e3, ep, il, e4⟩ := (hK ▸ r).list I
      obtain ⟨as, rr⟩ := e2.reads I h2 e3
      exact PySem.W.max_list_data (I.ok.hd hc) il rr h1 (by omega) fun i u h' tk bs hi hr hk => pick_ok hK I e2 e3 h2 q (by simpa using hi) hr hk
    · cases hf
  · split at hf
    · rename_i hs
      cases hf
      obtain ⟨h1, h2, h3⟩ := alikeOk_of hs
      obtain ⟨v, rfl, r⟩ := ra.one
      obtain ⟨a, rfl⟩ := r.isTup
      obtain ⟨u, rfl, ru⟩ := unVals1 rv
      cases ru
      obtain ⟨ys, its, e1, e2, e3, il, e4⟩ := (hK ▸ r).tuple I
      obtain ⟨as, rr⟩ := e2.reads I h2 e3
      exact PySem.W.max_tuple_data (I.ok.hd hc) il rr h1 (by omega) fun i u h' tk bs hi hr hk => pick_ok hK I e2 e3 h2 q (by simpa using hi) hr hk
    · cases hf
  · cases hf
    obtain ⟨v, w, rfl, r1, r2⟩ := ra.two
    cases r1
    cases r2
    exact call_max2 hc pins s σ H _ us Q I rv ⟨_, _, rfl, q _ _ (.refl H) (.sh (.int _))⟩
  · cases hf
/-- isinstance(x, T) -/
def dIsa (T : String) (d : D) : Option Bool := if d.plain then (match T with
  | "int" => some (PySem.PyData.isInt d)
  | "bool" => some (PySem.PyData.isBool d)
  | "str" => some (PySem.PyData.isStr d)
  | "tuple" => some (PySem.PyData.isTuple d)
  | "list" => some (PySem.PyData.isList d)
  | _ => none) else none
def rIsa (c : Cc) : List V → Hp → VK → Prop := fun vs H Q => ∃ (B : Addr → Prop) (x : V) (T : String) (d : D) (b : Bool), vs = [x, .ty T] ∧ Rep c.K H B x d ∧ dIsa T d = some b ∧ Q (.bl b) H
theorem od_isa (hK : X.K = c.K) : CallR X (.builtin "isinstance") (rIsa c) := by
  intro pins s σ H xs us Q I rv h
  obtain ⟨B, x, T, d, b, rfl, r, hf, q⟩ := h
  cases rv with
  | cons rx rt =>
    cases rt with
    | cons ry rn =>
      cases rn
      cases ry
      unfold dIsa at hf
      split at hf
      · rename_i hp
        obtain ⟨as, rr⟩ := (hK ▸ r).reads I hp rx
        split at hf <;> first | (cases hf; done) | skip
        · cases hf
          exact PySem.W.isinstance_int_data rr fun tk _ => ⟨.bl _, H, I.tok tk, rfl, q⟩
        · cases hf
          exact PySem.W.isinstance_bool_data rr fun tk _ => ⟨.bl _, H, I.tok tk, rfl, q⟩
        · cases hf
          exact PySem.W.isinstance_str_data rr fun tk _ => ⟨.bl _, H, I.tok tk, rfl, q⟩
        · cases hf
          exact PySem.W.isinstance_tuple_data rr fun tk _ => ⟨.bl _, H, I.tok tk, rfl, q⟩
        · cases hf
          exact PySem.W.isinstance_list_data rr fun tk _ => ⟨.bl _, H, I.tok tk, rfl, q⟩
      · cases hf

/-! ### sorted -/
def srtOk (ds : List D) : Bool := (ds.all fun a => ds.all fun b => PySem.W.alike a b) && PyData.plainAll ds && ds.all (fun d => decide (d.depth ≤ 60)) &&
  ((ds.all fun d => match d with | .tuple (_ :: _) => true | _ => false) || ds.all fun d => match d with | .none => false | .tuple _ => false | _ => true)
def dSort (ds : List D) : List D := ds.mergeSort fun a b => !PySem.W.dataLt b a
theorem srtOk_of {ds : List D} (h : srtOk ds = true) : PySem.W.AllAlike ds ∧ PySem.W.Sortable ds ∧ PyData.plainAll ds = true ∧ ∀ d ∈ ds, d.depth ≤ 60 := by
  simp only [srtOk, Bool.and_eq_true, List.all_eq_true, decide_eq_true_eq, Bool.or_eq_true] at h
  refine ⟨h.1.1.1, ?_, h.1.1.2, h.1.2⟩
  rcases h.2 with h | h
  · refine .inl fun d hd => ?_
    have := h d hd
    split at this
    · exact ⟨_, _, rfl⟩
    · cases this
  · refine .inr fun d hd => ?_
    have := h d hd
    refine ⟨fun e => ?_, fun xs e => ?_⟩ <;> (subst e; cases this)
/-- sorted(..): whatever its argument hands over is a new list, in order -/
theorem sorted_inv {v : Value} {its : List Value} {ys : List V} {ds : List D} {B : Addr → Prop} {pins : List (Addr × Obj)} {σ : Sl} {H : Hp} {s : Shared} {Q : VK} (hK : X.K = c.K) (hu : X.A.units + 64 < cLine) (t : Trk H B) (I0 : Inv X pins σ H s)
    (hcol : ∀ (Qc : List Value → Shared → Prop), (∀ s1, Inv X pins σ H s1 → Qc its s1) → wpAny (model X.prog X.w) X.A.in1 (collect v) Qc X.xe s) (e3 : Vals ys its) (e2 : RepL X.K H B ys ds) (hs : srtOk ds = true) (e4 : ys.length ≤ sizeLine)
    (q : ∀ v H', Ext H H' → ResOk c H H' B true v (.list (dSort ds)) → Q v H') : wpAny (model X.prog X.w) X.A (call (.builtin "sorted") [v]) (EP X pins σ Q) X.xe s := by
  obtain ⟨h1, h2, h3, h4⟩ := srtOk_of hs
  have hl := e3.length
  have hl2 := e2.length
  refine Calls.call_function_entry PyProof.Rows.kind_sorted PyProof.Rows.plain_sorted PyProof.Rows.entry_sorted (PyProof.Rows.args_sorted1 _) ?_
  unfold Builtin.«sorted»
  refine wpAny_bind (m := checkCount "sorted" 1 1 _) (wpAny_pure (wpAny_bind (hcol _ fun s1 I => ?_)))
  have EI : PySem.W.EachIs (fun (w : Value) (b : V × D) => RelV b.1 w) its (ys.zip ds) := by
    clear h1 h2 h3 h4 hs q t e4 hcol
    induction e3 generalizing ds with
    | nil =>
      cases e2
      exact .nil
    | cons r0 t0 ih =>
      cases e2 with
      | cons r1 t1 => exact .cons r0 (ih t1 (by simpa using hl) (by simpa using hl2))
  have ER : PySem.W.EachIs (fun (w : Value) (b : V × D) => ∃ as, Reads s1.heap w b.2 as) its (ys.zip ds) := by
    clear h1 h2 h4 hs q t e4 EI hcol
    induction e3 generalizing ds with
    | nil =>
      cases e2
      exact .nil
    | cons r0 t0 ih =>
      cases e2 with
      | cons r1 t1 =>
        simp only [PyData.plainAll, Bool.and_eq_true] at h3
        exact .cons (r1.reads I h3.1 r0) (ih t1 h3.2 (by simpa using hl) (by simpa using hl2))
  have hz : (ys.zip ds).map (·.2) = ds := by
    rw [List.map_snd_zip]
    omega
  have liz : its.length ≤ sizeLine := by omega
  refine wpAny_bind (wpAny_newList ?_ liz)
  generalize hP : s1.heap.objs.size = p
  have at1 : (s1.heap.push (seqObj "list" its.toArray 0)).get? p = some (seqObj "list" its.toArray 0) := by
    rw [← hP]
    exact Heap.get?_push_size _ rfl
  have old1 : ∀ b o, s1.heap.get? b = some o → (PySem.W.sortingHeap (s1.heap.push (seqObj "list" its.toArray 0)) p its).get? b = some o := fun b o hb => by
    have hlt := Heap.lt_size hb
    exact PySem.W.sortingHeap_old (Nat.ne_of_lt (by rw [← hP]; exact hlt)) (Heap.get?_push_of_some _ hb)
  have ER' : PySem.W.EachIs (fun (w : Value) (b : V × D) => ∃ as, Reads (PySem.W.sortingHeap (s1.heap.push (seqObj "list" its.toArray 0)) p its) w b.2 as) its (ys.zip ds) := ER.mono fun _ _ ⟨as, r⟩ => ⟨as, PyProof.Rows.Reads.keeps (fun b o hb => old1 b o hb) r⟩
  have hal : PySem.W.AllAlike ((ys.zip ds).map fun b : V × D => b.2) := by rw [hz]; exact h1
  refine wpAny_bind (wpAny_holding (wpAny_call_entry_kw PyProof.Rows.slot_list_sort ⟨_, at1, rfl⟩ PyProof.Rows.entry_list_sort ?_ (PyProof.Rows.args_list_sort _)))
  refine wpAny_mono (PySem.W.list_sort_vals (κ := PySem.W.dataKind (PySem.W.sortingHeap (s1.heap.push (seqObj "list" its.toArray 0)) p its) ((ys.zip ds).map fun b : V × D => b.2)) (s := { s1 with heap := s1.heap.push (seqObj "list" its.toArray 0) }) (P := fun f s' => f = .done (.ret .none) ∧ EP X pins σ Q (.ref p) s') at1
    (PySem.W.SortsAt.data (PySem.W.each_map (R := fun v d => ∃ as, Reads (PySem.W.sortingHeap (s1.heap.push (seqObj "list" its.toArray 0)) p its) v d as) (fun b : V × D => b.2) ER') hal (by rw [hz]; exact h2) (fun d hd => ?_)) liz ⟨rfl, ?_⟩) (fun f s' hf => ?_) fun _ _ e => e
  · rw [hz] at hd
    have := h4 d hd
    show X.A.units + 1 + 1 + d.depth < cLine
    omega
  · have EO := PySem.W.sortVals_data (R := fun (w : Value) (b : V × D) => RelV b.1 w) (enc := fun b : V × D => b.2) false EI ER' hal
    have lo : (PySem.W.sortVals (PySem.W.dataKind (PySem.W.sortingHeap (s1.heap.push (seqObj "list" its.toArray 0)) p its) ((ys.zip ds).map fun b : V × D => b.2)) false its its).length = its.length := PySem.W.sortVals_length false rfl
    generalize (PySem.W.sortVals (PySem.W.dataKind (PySem.W.sortingHeap (s1.heap.push (seqObj "list" its.toArray 0)) p its) ((ys.zip ds).map fun b : V × D => b.2)) false its its) = out at EO lo
    generalize hM : (ys.zip ds).mergeSort (PySem.W.dataLe false fun b : V × D => b.2) = M at EO
    have eM : M.map (·.2) = dSort ds := by
      rw [← hM]
      unfold dSort
      exact (List.map_mergeSort (r := PySem.W.dataLe false fun b : V × D => b.2) (s := fun a b => !PySem.W.dataLt b a) (f := fun b : V × D => b.2) (fun a _ b _ => rfl)).trans (by rw [hz])
    have vo : Vals (M.map (·.1)) out := by
      clear hM eM lo
      induction EO with
      | nil => exact .nil
      | cons r0 t0 ih => exact .cons r0 ih
    have memM : ∀ b ∈ M, Rep X.K H B b.1 b.2 := fun b hb => by
      have hb' : b ∈ ys.zip ds := by
        rw [← hM] at hb
        exact List.mem_mergeSort.mp hb
      obtain ⟨i, hi, hb2⟩ := List.getElem_of_mem hb'
      rw [List.getElem_zip] at hb2
      subst hb2
      obtain ⟨d', g1, g2⟩ := e2.getV (List.getElem?_eq_getElem (l := ys) (i := i) (by rw [List.length_zip] at hi; omega))
      have : d' = ds[i]'(by rw [List.length_zip] at hi; omega) := by
        rw [List.getElem?_eq_getElem (by rw [List.length_zip] at hi; omega)] at g1
        exact (Option.some.inj g1).symm
      subst this
      exact g2
    have rM : RepL X.K H B (M.map (·.1)) (M.map (·.2)) := by
      clear EO vo eM hM lo
      induction M with
      | nil => exact .nil
      | cons b r ih => exact .cons (memM b (by simp)) (ih fun b' hb' => memM b' (by simp [hb']))
    have hp : H p = none := I.hok.fresh (by omega)
    obtain ⟨e, he⟩ := sortedHeap_at (vs := its) (n := 0) (out := out.toArray) at1
    have lM : (M.map (·.1)).length ≤ sizeLine := by
      rw [vo.length, lo]
      omega
    refine ⟨.ref p, upd H p (.lst (M.map (·.1))), I.laid (t' := s1.toks) (fun b o hb => ?_) (by omega) ⟨lM, out, e, vo, he⟩, rfl, q _ _ (ext_upd hp) ?_⟩
    · have hlt := Heap.lt_size hb
      rw [sortedHeap_old (Nat.ne_of_lt (by rw [← hP]; exact hlt)) (by rw [size_push']; exact Nat.lt_succ_of_lt hlt)]
      exact Heap.get?_push_of_some _ hb
    · rw [← eM]
      exact res_new t hp (hK ▸ rM)
  · obtain ⟨rfl, hq⟩ := hf
    exact ⟨_, rfl, wpAny_pure ⟨_, rfl, hq⟩⟩
/-- of a list or a tuple -/
def dSorted : List D → Option D
  | [.list ds] => if srtOk ds then some (.list (dSort ds)) else none
  | [.tuple ds] => if srtOk ds then some (.list (dSort ds)) else none
  | _ => none
theorem od_sorted (hK : X.K = c.K) (hu : X.A.units + 64 < cLine) : CallR X (.builtin "sorted") (rDN c dSorted true) := by
  intro pins s σ H xs us Q I rv h
  obtain ⟨B, da, d, t, ra, hf, q⟩ := h
  unfold dSorted at hf
  split at hf
  · split at hf
    · rename_i ds hs
      cases hf
      obtain ⟨v, rfl, r⟩ := ra.one
      obtain ⟨a, rfl⟩ := r.isList
      obtain ⟨u, rfl, ru⟩ := unVals1 rv
      cases ru
      obtain ⟨ys, its, e1, e2, e3, ep, il, e4⟩ := (hK ▸ r).list I
      obtain ⟨o, ho, hc, n, hd⟩ := il
      have hl := e3.length
      exact sorted_inv hK hu t I (fun Qc k => wpAny_collect_seq a (.inl rfl) ho hc hd (fun h' kp => by
        rw [List.toList_toArray]
        exact k _ (I.kept (t' := s.toks) fun b o e => kp b o e)) (by rw [List.size_toArray]; omega)) e3 e2 hs e4 q
    · cases hf
  · split at hf
    · rename_i ds hs
      cases hf
      obtain ⟨v, rfl, r⟩ := ra.one
      obtain ⟨a, xs, rfl, h1, h2⟩ := r.seqT
      obtain ⟨u, rfl, ru⟩ := unVals1 rv
      cases ru
      rw [← hK] at h1 h2
      obtain ⟨its, e3, ⟨o, ho, hc, n, hd⟩, e4⟩ := I.tuple h1
      have hl := e3.length
      exact sorted_inv hK hu t I (fun Qc k => wpAny_collect_seq a (.inr rfl) ho hc hd (fun h' kp => by
        rw [List.toList_toArray]
        exact k _ (I.kept (t' := s.toks) fun b o e => kp b o e)) (by rw [List.size_toArray]; omega)) e3 h2 hs e4 q
    · cases hf
  · cases hf
end
end Dl

set_option Elab.async false
set_option linter.all false
set_option maxRecDepth 100000
set_option maxHeartbeats 4000000
/-! Dl6: expressions by data. -/
namespace Dl
open PySem PySem.Spec PyProof.Rows L2

theorem ResOk.back {c : Cc} {H H1 H' : Hp} {B : Addr → Prop} {fr : Bool} {v : V} {d : D} (r : ResOk c H1 H' B fr v d) (e : Ext H H1) : ResOk c H H' B fr v d :=
  ⟨r.1, fun a b => by
    obtain ⟨p, h1, h2, h3⟩ := r.2 a b
    exact ⟨p, h1, e.free h2, h3⟩⟩
theorem ResOk.weak {c : Cc} {H H' : Hp} {B B' : Addr → Prop} {fr : Bool} {v : V} {d : D} (r : ResOk c H H' B fr v d) (h : ∀ a, B' a → B a) : ResOk c H H' B' fr v d :=
  ⟨r.1.move (.weak h), fun a b => by
    obtain ⟨p, h1, h2, h3⟩ := r.2 a b
    exact ⟨p, h1, h2, h3.move (.weak fun x z => z.elim (fun z => .inl (h x z)) .inr) fun _ _ e => e⟩⟩
theorem ResOk.noFr {c : Cc} {H H' : Hp} {B : Addr → Prop} {fr : Bool} {v : V} {d : D} (r : ResOk c H H' B fr v d) : ResOk c H H' B false v d := .sh r.1

/-- readings by data: S: the slots that the value may lie over; fr: it is new -/
def tE (c : Cc) (S : List Nat) (fr : Bool) (f : Gm → Option D) : TE := fun σ H Q => ∃ (F : Addr → Prop) (H0 : Hp) (A : AM) (Γ : Gm) (d : D), StR c F H0 H A σ Γ ∧ f Γ = some d ∧ ∀ v H', Ext H H' → ResOk c H H' (Bn F (cut A S)) fr v d → Q v H'
def tAs (c : Cc) (S : List Nat) (f : Gm → Option (List D)) : TA := fun σ H Q => ∃ (F : Addr → Prop) (H0 : Hp) (A : AM) (Γ : Gm) (ds : List D), StR c F H0 H A σ Γ ∧ f Γ = some ds ∧ ∀ vs H', Ext H H' → RepL c.K H' (Bn F (cut A S)) vs ds → Q vs H'
def tTs (c : Cc) (f : Gm → Option Bool) : TT := fun σ H Q => ∃ (F : Addr → Prop) (H0 : Hp) (A : AM) (Γ : Gm) (b : Bool), StR c F H0 H A σ Γ ∧ f Γ = some b ∧ ∀ H', Ext H H' → Q b H'
theorem bind_ok {α β : Type} {o : Option α} {f : α → Option β} {b : β} (h : o.bind f = some b) : ∃ a, o = some a ∧ f a = some b := by
  cases o with
  | none => cases h
  | some a => exact ⟨a, rfl, h⟩
theorem map_ok {α β : Type} {o : Option α} {f : α → β} {b : β} (h : o.map f = some b) : ∃ a, o = some a ∧ f a = b := by
  cases o with
  | none => cases h
  | some a => exact ⟨a, rfl, Option.some.inj h⟩
theorem StR.trk {c : Cc} {F : Addr → Prop} {H0 H : Hp} {A : AM} {σ : Sl} {Γ : Gm} (S : StR c F H0 H A σ Γ) (L : List Nat) : Trk H (Bn F (cut A L)) := fun a h => S.btr h.cut
theorem cutApp {F : Addr → Prop} {A : AM} {S T : List Nat} : (∀ a, Bn F (cut A (S ++ T)) a → Bn F (cut A S) a) ∧ ∀ a, Bn F (cut A (S ++ T)) a → Bn F (cut A T) a :=
  ⟨fun a h => Bn.cut_mono (fun i hi => List.mem_append_left _ hi) h, fun a h => Bn.cut_mono (fun i hi => List.mem_append_right _ hi) h⟩

section
variable {X : Cx} {c : Cc}
theorem pe_imp {e : Expr} {t t' : TE} (h : PE X e t) (i : ∀ σ H Q, t' σ H Q → t σ H Q) : PE X e t' := ⟨fun pins s σ H Q I q => h.run pins s σ H Q I (i _ _ _ q)⟩
theorem pt_imp {e : Expr} {t t' : TT} (h : PT X e t) (i : ∀ σ H Q, t' σ H Q → t σ H Q) : PT X e t' := ⟨fun pins s σ H Q I q => h.run pins s σ H Q I (i _ _ _ q)⟩
theorem pw_imp {e : Expr} {t t' : TT} (h : PW X e t) (i : ∀ σ H Q, t' σ H Q → t σ H Q) : PW X e t' := ⟨fun w pins s σ H Q I q => h.run w pins s σ H Q I (i _ _ _ q)⟩
theorem pa_imp {e : List Expr} {t t' : TA} (h : PA X e t) (i : ∀ σ H Q, t' σ H Q → t σ H Q) : PA X e t' := ⟨fun pos pins s σ H Q I q => h.run pos pins s σ H Q I (i _ _ _ q)⟩
variable {a b e : Expr} {es : List Expr} {Sa Sb Se : List Nat} {fa fb fe fr : Bool} {va vb ve : Gm → Option D} {vs : Gm → Option (List D)} {pos : Pos}

/-! ### names, constants -/
def getG (Γ : Gm) (i : Nat) : Option D := match Γ[i]? with
  | some (some (_, d)) => some d
  | _ => none
theorem getG_of {Γ : Gm} {i : Nat} {d : D} (h : getG Γ i = some d) : ∃ f, Γ[i]? = some (some (f, d)) := by
  unfold getG at h
  split at h
  · cases h
    exact ⟨_, by assumption⟩
  · cases h
theorem de_var {i : Nat} {x : Str} (hN : X.N[i]? = some x) (hv : Vis X.env.scope x) (hd : (x == ("__debug__" : Str)) = false) (hcd : (x == ("__classdict__" : Str)) = false) : PE X (.Name x pos) (tE c [i] false fun Γ => getG Γ i) := by
  refine pe_imp (pe_var hN hv hd hcd) fun σ H Q ⟨F, H0, A, Γ, d, S, hf, q⟩ => ?_
  obtain ⟨f, hg⟩ := getG_of hf
  obtain ⟨v, h1, h2⟩ := S.val hg
  exact ⟨v, h1, q v H (.refl H) (.sh h2)⟩
theorem de_const {v : V} {d : D} (h : PE X e (tC v)) (r : ∀ H B, Rep c.K H B v d) (m : isMut d = false) : PE X e (tE c [] true fun _ => some d) := by
  refine pe_imp h fun σ H Q ⟨F, H0, A, Γ, d', S, hf, q⟩ => ?_
  cases hf
  exact q v H (.refl H) (.plain (r _ _) fun _ => m)

/-! ### operators -/
theorem de_op {op : Operator} {fo : D → D → Option D} (ho : OpR X (binaryOp op) (rD2 c fo fr)) (ha : PE X a (tE c Sa fa va)) (hb : PE X b (tE c Sb fb vb)) :
    PE X (.BinOp a op b pos) (tE c (Sa ++ Sb) fr fun Γ => (va Γ).bind fun x => (vb Γ).bind fun y => fo x y) := by
  refine pe_imp (pe_op ho ha hb) fun σ H Q ⟨F, H0, A, Γ, d, S, hf, q⟩ => ?_
  obtain ⟨x, e1, hf⟩ := bind_ok hf
  obtain ⟨y, e2, hf⟩ := bind_ok hf
  refine ⟨F, H0, A, Γ, x, S, e1, fun v1 H1 x1 r1 => ⟨F, H0, A, Γ, y, S.grow x1, e2, fun v2 H2 x2 r2 => ⟨Bn F (cut A (Sa ++ Sb)), x, y, d, ((S.grow x1).grow x2).trk _, (r1.1.move (.ext x2)).move (.weak cutApp.1), r2.1.move (.weak cutApp.2), hf, fun v H' x3 r3 => ?_⟩⟩⟩
  exact q v H' (x1.trans (x2.trans x3)) (r3.back (x1.trans x2))
theorem de_cmp {op : CmpOp} {fo : D → D → Option D} (ho : OpR X (compareOp op) (rD2 c fo fr)) (hm : behindInMarks op b = false) (ha : PE X a (tE c Sa fa va)) (hb : PE X b (tE c Sb fb vb)) :
    PE X (.Compare a [op] [b] pos) (tE c (Sa ++ Sb) fr fun Γ => (va Γ).bind fun x => (vb Γ).bind fun y => fo x y) := by
  refine pe_imp (pe_cmpR ho ha hb hm) fun σ H Q ⟨F, H0, A, Γ, d, S, hf, q⟩ => ?_
  obtain ⟨x, e1, hf⟩ := bind_ok hf
  obtain ⟨y, e2, hf⟩ := bind_ok hf
  refine ⟨F, H0, A, Γ, x, S, e1, fun v1 H1 x1 r1 => ⟨F, H0, A, Γ, y, S.grow x1, e2, fun v2 H2 x2 r2 => ⟨Bn F (cut A (Sa ++ Sb)), x, y, d, ((S.grow x1).grow x2).trk _, (r1.1.move (.ext x2)).move (.weak cutApp.1), r2.1.move (.weak cutApp.2), hf, fun v H' x3 r3 => ?_⟩⟩⟩
  exact q v H' (x1.trans (x2.trans x3)) (r3.back (x1.trans x2))
def asB : D → Option Bool
  | .bool b => some b
  | _ => none
theorem asB_of {d : D} {b : Bool} (h : asB d = some b) : d = .bool b := by
  cases d <;> cases h
  rfl
theorem dt_cmp {op : CmpOp} {fo : D → D → Option D} (ho : OpR X (compareOp op) (rD2 c fo fr)) (hm : behindInMarks op b = false) (ha : PE X a (tE c Sa fa va)) (hb : PE X b (tE c Sb fb vb)) :
    PT X (.Compare a [op] [b] pos) (tTs c fun Γ => ((va Γ).bind fun x => (vb Γ).bind fun y => fo x y).bind asB) := by
  refine pt_imp (pt_cmpR ho ha hb hm) fun σ H Q ⟨F, H0, A, Γ, b, S, hf, q⟩ => ?_
  obtain ⟨d, hf, hb⟩ := bind_ok hf
  obtain ⟨x, e1, hf⟩ := bind_ok hf
  obtain ⟨y, e2, hf⟩ := bind_ok hf
  have := asB_of hb
  subst this
  refine ⟨F, H0, A, Γ, x, S, e1, fun v1 H1 x1 r1 => ⟨F, H0, A, Γ, y, S.grow x1, e2, fun v2 H2 x2 r2 => ⟨Bn F (cut A (Sa ++ Sb)), x, y, _, ((S.grow x1).grow x2).trk _, (r1.1.move (.ext x2)).move (.weak cutApp.1), r2.1.move (.weak cutApp.2), hf, fun v H' x3 r3 => ?_⟩⟩⟩
  obtain ⟨r3, _⟩ := r3
  cases r3
  exact ⟨b, rfl, q H' (x1.trans (x2.trans x3))⟩
/-- a op b op' c -/
def vChain (fo fo' : D → D → Option D) (va vb vc : Gm → Option D) : Gm → Option D := fun Γ => (va Γ).bind fun x => (vb Γ).bind fun y => ((fo x y).bind asB).bind fun k => if k = true then (vc Γ).bind fun z => ((fo' y z).bind asB).map .bool else some (.bool false)
theorem rd_chain {fo fo' : D → D → Option D} {fr fr' : Bool} {Sc : List Nat} {fc : Bool} {vc : Gm → Option D} {σ : Sl} {H : Hp} {Q : VK} (h : tE c [] true (vChain fo fo' va vb vc) σ H Q) :
    tChain (rD2 c fo fr) (rD2 c fo' fr') (tE c Sa fa va) (tE c Sb fb vb) (tE c Sc fc vc) σ H Q := by
  obtain ⟨F, H0, A, Γ, d, S, hf, q⟩ := h
  obtain ⟨x, e1, hf⟩ := bind_ok hf
  obtain ⟨y, e2, hf⟩ := bind_ok hf
  obtain ⟨k, e3, hf⟩ := bind_ok hf
  obtain ⟨dk, e4, e5⟩ := bind_ok e3
  have := asB_of e5
  subst this
  refine ⟨F, H0, A, Γ, x, S, e1, fun v1 H1 x1 r1 => ⟨F, H0, A, Γ, y, S.grow x1, e2, fun v2 H2 x2 r2 => ⟨Bn F (cut A (Sa ++ Sb)), x, y, _, ((S.grow x1).grow x2).trk _, (r1.1.move (.ext x2)).move (.weak cutApp.1), r2.1.move (.weak cutApp.2), e4, fun v H' x3 r3 => ?_⟩⟩⟩
  obtain ⟨r3, _⟩ := r3
  cases r3
  refine ⟨k, rfl, ?_⟩
  cases k with
  | false =>
    rw [if_neg Bool.false_ne_true] at hf ⊢
    cases hf
    exact q _ _ (x1.trans (x2.trans x3)) (.plain (.bl _) fun _ => rfl)
  | true =>
    rw [if_pos rfl] at hf ⊢
    obtain ⟨z, e6, hf⟩ := bind_ok hf
    obtain ⟨k', e7, hf⟩ := map_ok hf
    subst hf
    obtain ⟨dk, e8, e9⟩ := bind_ok e7
    have := asB_of e9
    subst this
    have S3 := ((S.grow x1).grow x2).grow x3
    refine ⟨F, H0, A, Γ, z, S3, e6, fun v4 H4 x4 r4 => ⟨Bn F (cut A (Sb ++ Sc)), y, z, _, (S3.grow x4).trk _, (r2.1.move (.ext (x3.trans x4))).move (.weak cutApp.1), r4.1.move (.weak cutApp.2), e8, fun v5 H5 x5 r5 => ?_⟩⟩
    obtain ⟨r5, _⟩ := r5
    cases r5
    exact q _ _ (x1.trans (x2.trans (x3.trans (x4.trans x5)))) (.plain (.bl _) fun _ => rfl)
theorem de_chain {op op' : CmpOp} {fo fo' : D → D → Option D} {fr fr' : Bool} {Sc : List Nat} {fc : Bool} {vc : Gm → Option D} {e3 : Expr} (ho : OpR X (compareOp op) (rD2 c fo fr)) (ho' : OpR X (compareOp op') (rD2 c fo' fr')) (hm : lastMarks [op, op'] [b, e3] = false)
    (ha : PE X a (tE c Sa fa va)) (hb : PE X b (tE c Sb fb vb)) (hc : PE X e3 (tE c Sc fc vc)) : PE X (.Compare a [op, op'] [b, e3] pos) (tE c [] true (vChain fo fo' va vb vc)) :=
  pe_imp (pe_chain ho ho' ha hb hc hm) fun σ H Q h => rd_chain h
theorem dt_chain {op op' : CmpOp} {fo fo' : D → D → Option D} {fr fr' : Bool} {Sc : List Nat} {fc : Bool} {vc : Gm → Option D} {e3 : Expr} (ho : OpR X (compareOp op) (rD2 c fo fr)) (ho' : OpR X (compareOp op') (rD2 c fo' fr')) (hm : lastMarks [op, op'] [b, e3] = false)
    (ha : PE X a (tE c Sa fa va)) (hb : PE X b (tE c Sb fb vb)) (hc : PE X e3 (tE c Sc fc vc)) : PT X (.Compare a [op, op'] [b, e3] pos) (tTs c fun Γ => (vChain fo fo' va vb vc Γ).bind asB) :=
  pt_imp (pt_chain ho ho' ha hb hc hm) fun σ H Q ⟨F, H0, A, Γ, b, S, hf, q⟩ => by
    obtain ⟨d, e1, e2⟩ := bind_ok hf
    have := asB_of e2
    subst this
    exact rd_chain ⟨F, H0, A, Γ, _, S, e1, fun v H' x1 r => by
      obtain ⟨r, _⟩ := r
      cases r
      exact ⟨b, rfl, q H' x1⟩⟩
def rU1 (c : Cc) (fo : D → Option D) : V → Hp → VK → Prop := rD1 c fo true
theorem de_un {op : UnaryOp} {fo : D → Option D} (ho : UnR X (unaryOp op) (rD1 c fo fr)) (ha : PE X a (tE c Sa fa va)) : PE X (.UnaryOp op a pos) (tE c Sa fr fun Γ => (va Γ).bind fo) := by
  refine pe_imp (pe_un ho ha) fun σ H Q ⟨F, H0, A, Γ, d, S, hf, q⟩ => ?_
  obtain ⟨x, e1, hf⟩ := bind_ok hf
  exact ⟨F, H0, A, Γ, x, S, e1, fun v1 H1 x1 r1 => ⟨_, x, d, (S.grow x1).trk _, r1.1, hf, fun v H' x3 r3 => q v H' (x1.trans x3) (r3.back x1)⟩⟩
def dNeg : D → Option D
  | .int i => some (.int (-i))
  | _ => none
theorem od_neg : UnR X (unaryOp .USub) (rD1 c dNeg true) := by
  intro pins s σ H x v Q I rx h
  obtain ⟨B, da, d, t, ra, hf, q⟩ := h
  unfold dNeg at hf
  split at hf
  · cases hf
    cases ra
    exact un_neg pins s σ H _ v Q I rx ⟨_, rfl, q _ _ (.refl H) (.plain (.int _) fun _ => rfl)⟩
  · cases hf

/-! ### truth -/
def dTru : D → Option Bool
  | .none => some false
  | .bool b => some b
  | .int i => some (i != 0)
  | .str x => if fit x.length then some ((x.length : Int) != 0) else none
  | .list ds => some (!ds.isEmpty)
  | .tuple ds => some (!ds.isEmpty)
  | .dict _ => none
theorem isEmpty_len {K : PySem.W.Frag} {H : Hp} {B : Addr → Prop} {vs : List V} {ds : List D} (r : RepL K H B vs ds) : vs.isEmpty = ds.isEmpty := by cases r <;> rfl
theorem tru_ok {H : Hp} {B : Addr → Prop} {v : V} {d : D} {k : Bool} (r : Rep c.K H B v d) (h : dTru d = some k) : TruV c.K v H k := by
  cases r with
  | non => cases h; rfl
  | bl b => cases h; rfl
  | int i => cases h; rfl
  | str x =>
    simp only [dTru] at h
    split at h
    · rename_i hz
      cases h
      exact ⟨fit_size hz, rfl⟩
    · cases h
  | lst n h1 r =>
    cases h
    exact .inl ⟨_, .inl h1, by rw [isEmpty_len r]⟩
  | lstK h1 r =>
    cases h
    exact .inl ⟨_, knL h1, by rw [isEmpty_len r]⟩
  | tup n h1 r =>
    cases h
    exact .inr (.inl ⟨_, .inl (.inl h1), by rw [isEmpty_len r]⟩)
  | dicK n h1 r => cases h
  | dicT n h1 r => cases h
theorem dt_gen (hK : X.K = c.K) (ha : PE X a (tE c Sa fa va)) (he : ∀ whole, isTrue a X.env whole = (do let v ← whole; standAt a.pos; holding [v] (truthy v))) : PT X a (tTs c fun Γ => (va Γ).bind dTru) := by
  refine pt_imp (pt_truth ha he) fun σ H Q ⟨F, H0, A, Γ, b, S, hf, q⟩ => ?_
  obtain ⟨x, e1, hf⟩ := bind_ok hf
  exact ⟨F, H0, A, Γ, x, S, e1, fun v1 H1 x1 r1 => ⟨b, by rw [hK]; exact tru_ok r1.1 hf, q H1 x1⟩⟩
def dNot (d : D) : Option D := (dTru d).map fun b => .bool (!b)
theorem de_not (hK : X.K = c.K) (ha : PE X a (tE c Sa fa va)) : PE X (.UnaryOp .Not a pos) (tE c Sa true fun Γ => (va Γ).bind dNot) := by
  refine pe_imp (pe_notT ha) fun σ H Q ⟨F, H0, A, Γ, d, S, hf, q⟩ => ?_
  obtain ⟨x, e1, hf⟩ := bind_ok hf
  obtain ⟨k, e2, hf⟩ := map_ok hf
  subst hf
  exact ⟨F, H0, A, Γ, x, S, e1, fun v1 H1 x1 r1 => ⟨k, by rw [hK]; exact tru_ok r1.1 e2, q _ _ x1 (.plain (.bl _) fun _ => rfl)⟩⟩
theorem dt_not {ta : Gm → Option Bool} (ha : PT X a (tTs c ta)) : PT X (.UnaryOp .Not a pos) (tTs c fun Γ => (ta Γ).map fun b => !b) := by
  refine pt_imp (pt_not ha) fun σ H Q ⟨F, H0, A, Γ, b, S, hf, q⟩ => ?_
  obtain ⟨k, e2, hf⟩ := map_ok hf
  subst hf
  exact ⟨F, H0, A, Γ, k, S, e2, fun H1 x1 => q H1 x1⟩
def vAnd (va vb : Gm → Option D) : Gm → Option D := fun Γ => (va Γ).bind fun x => (dTru x).bind fun k => if k = true then vb Γ else some x
def vOr (va vb : Gm → Option D) : Gm → Option D := fun Γ => (va Γ).bind fun x => (dTru x).bind fun k => if k = true then some x else vb Γ
variable {rest : List Expr}
theorem de_and (hK : X.K = c.K) (ha : PE X a (tE c Sa fa va)) (hb : PE X (.BoolOp .And (b :: rest) pos) (tE c Sb fb vb)) : PE X (.BoolOp .And (a :: b :: rest) pos) (tE c (Sa ++ Sb) false (vAnd va vb)) := by
  refine pe_imp (pe_andT ha hb) fun σ H Q ⟨F, H0, A, Γ, d, S, hf, q⟩ => ?_
  obtain ⟨x, e1, hf⟩ := bind_ok hf
  obtain ⟨k, e2, hf⟩ := bind_ok hf
  refine ⟨F, H0, A, Γ, x, S, e1, fun v1 H1 x1 r1 => ⟨k, by rw [hK]; exact tru_ok r1.1 e2, ?_⟩⟩
  cases k with
  | true =>
    rw [if_pos rfl] at hf ⊢
    exact ⟨F, H0, A, Γ, d, S.grow x1, hf, fun v2 H2 x2 r2 => q v2 H2 (x1.trans x2) (.sh (r2.1.move (.weak cutApp.2)))⟩
  | false =>
    rw [if_neg Bool.false_ne_true] at hf ⊢
    cases hf
    exact q _ _ x1 (.sh (r1.1.move (.weak cutApp.1)))
theorem de_or (hK : X.K = c.K) (ha : PE X a (tE c Sa fa va)) (hb : PE X (.BoolOp .Or (b :: rest) pos) (tE c Sb fb vb)) : PE X (.BoolOp .Or (a :: b :: rest) pos) (tE c (Sa ++ Sb) false (vOr va vb)) := by
  refine pe_imp (pe_orT ha hb) fun σ H Q ⟨F, H0, A, Γ, d, S, hf, q⟩ => ?_
  obtain ⟨x, e1, hf⟩ := bind_ok hf
  obtain ⟨k, e2, hf⟩ := bind_ok hf
  refine ⟨F, H0, A, Γ, x, S, e1, fun v1 H1 x1 r1 => ⟨k, by rw [hK]; exact tru_ok r1.1 e2, ?_⟩⟩
  cases k with
  | false =>
    rw [if_neg Bool.false_ne_true] at hf ⊢
    exact ⟨F, H0, A, Γ, d, S.grow x1, hf, fun v2 H2 x2 r2 => q v2 H2 (x1.trans x2) (.sh (r2.1.move (.weak cutApp.2)))⟩
  | true =>
    rw [if_pos rfl] at hf ⊢
    cases hf
    exact q _ _ x1 (.sh (r1.1.move (.weak cutApp.1)))
theorem dt_and {ta tb : Gm → Option Bool} (ha : PT X a (tTs c ta)) (hb : PW X (.BoolOp .And (b :: rest) pos) (tTs c tb)) : PW X (.BoolOp .And (a :: b :: rest) pos) (tTs c fun Γ => (ta Γ).bind fun k => if k = true then tb Γ else some false) := by
  refine pw_imp (pw_and ha hb) fun σ H Q ⟨F, H0, A, Γ, d, S, hf, q⟩ => ?_
  obtain ⟨k, e1, hf⟩ := bind_ok hf
  refine ⟨F, H0, A, Γ, k, S, e1, fun H1 x1 => ?_⟩
  cases k with
  | true =>
    rw [if_pos rfl] at hf ⊢
    exact ⟨F, H0, A, Γ, d, S.grow x1, hf, fun H2 x2 => q H2 (x1.trans x2)⟩
  | false =>
    rw [if_neg Bool.false_ne_true] at hf ⊢
    cases hf
    exact q _ x1
theorem dt_or {ta tb : Gm → Option Bool} (ha : PT X a (tTs c ta)) (hb : PW X (.BoolOp .Or (b :: rest) pos) (tTs c tb)) : PW X (.BoolOp .Or (a :: b :: rest) pos) (tTs c fun Γ => (ta Γ).bind fun k => if k = true then some true else tb Γ) := by
  refine pw_imp (pw_or ha hb) fun σ H Q ⟨F, H0, A, Γ, d, S, hf, q⟩ => ?_
  obtain ⟨k, e1, hf⟩ := bind_ok hf
  refine ⟨F, H0, A, Γ, k, S, e1, fun H1 x1 => ?_⟩
  cases k with
  | false =>
    rw [if_neg Bool.false_ne_true] at hf ⊢
    exact ⟨F, H0, A, Γ, d, S.grow x1, hf, fun H2 x2 => q H2 (x1.trans x2)⟩
  | true =>
    rw [if_pos rfl] at hf ⊢
    cases hf
    exact q _ x1
theorem de_if {t : Expr} {tt : Gm → Option Bool} (ht : PT X t (tTs c tt)) (ha : PE X a (tE c Sa fa va)) (hb : PE X b (tE c Sb fb vb)) :
    PE X (.IfExp t a b pos) (tE c (Sa ++ Sb) (fa && fb) fun Γ => (tt Γ).bind fun k => if k = true then va Γ else vb Γ) := by
  refine pe_imp (pe_ifExp ht ha hb) fun σ H Q ⟨F, H0, A, Γ, d, S, hf, q⟩ => ?_
  obtain ⟨k, e1, hf⟩ := bind_ok hf
  refine ⟨F, H0, A, Γ, k, S, e1, fun H1 x1 => ?_⟩
  cases k with
  | true =>
    rw [if_pos rfl] at hf ⊢
    refine ⟨F, H0, A, Γ, d, S.grow x1, hf, fun v2 H2 x2 r2 => q v2 H2 (x1.trans x2) ?_⟩
    have r := (r2.weak cutApp.1 (B' := Bn F (cut A (Sa ++ Sb)))).back x1
    exact ⟨r.1, fun h m => r.2 (by cases fa <;> cases fb <;> first | rfl | cases h) m⟩
  | false =>
    rw [if_neg Bool.false_ne_true] at hf ⊢
    refine ⟨F, H0, A, Γ, d, S.grow x1, hf, fun v2 H2 x2 r2 => q v2 H2 (x1.trans x2) ?_⟩
    have r := (r2.weak cutApp.2 (B' := Bn F (cut A (Sa ++ Sb)))).back x1
    exact ⟨r.1, fun h m => r.2 (by cases fa <;> cases fb <;> first | rfl | cases h) m⟩

/-! ### argument lists, displays -/
theorem da_nil : PA X [] (tAs c [] fun _ => some []) := by
  refine pa_imp pa_nil fun σ H Q ⟨F, H0, A, Γ, d, S, hf, q⟩ => ?_
  cases hf
  exact q _ _ (.refl H) .nil
theorem da_cons (ha : PE X e (tE c Se fe ve)) (hr : PA X es (tAs c Sa vs)) (hs : starEach (e :: es) X.env = (false, eval e X.env) :: starEach es X.env) :
    PA X (e :: es) (tAs c (Se ++ Sa) fun Γ => (ve Γ).bind fun x => (vs Γ).bind fun xs => some (x :: xs)) := by
  refine pa_imp (pa_cons ha hr hs) fun σ H Q ⟨F, H0, A, Γ, d, S, hf, q⟩ => ?_
  obtain ⟨x, e1, hf⟩ := bind_ok hf
  obtain ⟨xs, e2, hf⟩ := bind_ok hf
  cases hf
  exact ⟨F, H0, A, Γ, x, S, e1, fun v1 H1 x1 r1 => ⟨F, H0, A, Γ, xs, S.grow x1, e2, fun v2 H2 x2 r2 => q _ _ (x1.trans x2) (.cons ((r1.1.move (.ext x2)).move (.weak cutApp.1)) (r2.move (.weak cutApp.2)))⟩⟩
theorem de_tup {x1 : Nat} (h : PA X es (tAs c Sa vs)) : PE X (.Tuple es x1 pos) (tE c Sa false fun Γ => (vs Γ).bind fun ds => if fit ds.length then some (.tuple ds) else none) := by
  refine pe_imp (pe_tup h) fun σ H Q ⟨F, H0, A, Γ, d, S, hf, q⟩ => ?_
  obtain ⟨ds, e1, hf⟩ := bind_ok hf
  split at hf
  · rename_i hz
    cases hf
    exact ⟨F, H0, A, Γ, ds, S, e1, fun v1 H1 x1 r1 => ⟨by rw [r1.length]; exact fit_size hz, fun p hp => q _ _ (x1.trans (ext_upd hp)) (.sh (res_tup (fr := false) ((S.grow x1).trk _) hp r1).1)⟩⟩
  · cases hf
theorem de_lst (h : PA X es (tAs c Sa vs)) : PE X (.List es pos) (tE c Sa true fun Γ => (vs Γ).bind fun ds => if fit ds.length then some (.list ds) else none) := by
  refine pe_imp (pe_lst h) fun σ H Q ⟨F, H0, A, Γ, d, S, hf, q⟩ => ?_
  obtain ⟨ds, e1, hf⟩ := bind_ok hf
  split at hf
  · rename_i hz
    cases hf
    exact ⟨F, H0, A, Γ, ds, S, e1, fun v1 H1 x1 r1 => ⟨by rw [r1.length]; exact fit_size hz, fun p hp => q _ _ (x1.trans (ext_upd hp)) ((res_new ((S.grow x1).trk _) hp r1).back x1)⟩⟩
  · cases hf
theorem de_dicK : PE X (.Dict [] [] pos) (tE c [] true fun _ => some (.dict [])) := by
  refine pe_imp pe_dnewK fun σ H Q ⟨F, H0, A, Γ, d, S, hf, q⟩ => ?_
  cases hf
  exact fun p hp => q _ _ (ext_upd hp) ⟨.dicK ((S.trk _).free hp) upd_same .nil, fun _ _ => ⟨p, rfl, hp, .dicK upd_same .nil⟩⟩
theorem de_dicT : PE X (.Dict [] [] pos) (tE c [] true fun _ => some (.dict [mk])) := by
  refine pe_imp pe_dnewT fun σ H Q ⟨F, H0, A, Γ, d, S, hf, q⟩ => ?_
  cases hf
  exact fun p hp => q _ _ (ext_upd hp) ⟨.dicT ((S.trk _).free hp) upd_same .nil, fun _ _ => ⟨p, rfl, hp, .dicT upd_same .nil⟩⟩

/-! ### places, slices -/
theorem de_idx {fo : D → D → Option D} (ho : IxR X (rD2 c fo fr)) (hs : PlainIx b) (ha : PE X a (tE c Sa fa va)) (hb : PE X b (tE c Sb fb vb)) :
    PE X (.Subscript a b pos) (tE c (Sa ++ Sb) fr fun Γ => (va Γ).bind fun x => (vb Γ).bind fun y => fo x y) := by
  refine pe_imp (pe_ix ho ha hb hs) fun σ H Q ⟨F, H0, A, Γ, d, S, hf, q⟩ => ?_
  obtain ⟨x, e1, hf⟩ := bind_ok hf
  obtain ⟨y, e2, hf⟩ := bind_ok hf
  refine ⟨F, H0, A, Γ, x, S, e1, fun v1 H1 x1 r1 => ⟨F, H0, A, Γ, y, S.grow x1, e2, fun v2 H2 x2 r2 => ⟨Bn F (cut A (Sa ++ Sb)), x, y, d, ((S.grow x1).grow x2).trk _, (r1.1.move (.ext x2)).move (.weak cutApp.1), r2.1.move (.weak cutApp.2), hf, fun v H' x3 r3 => ?_⟩⟩⟩
  exact q v H' (x1.trans (x2.trans x3)) (r3.back (x1.trans x2))
def dGet (d k : D) : Option D := (dAsk d k).bind id
theorem de_dget (hu : X.A.units + 1 < cLine) (hs : NoSl b) (ha : PE X a (tE c Sa fa va)) (hb : PE X b (tE c Sb fb vb)) :
    PE X (.Subscript a b pos) (tE c (Sa ++ Sb) false fun Γ => (va Γ).bind fun x => (vb Γ).bind fun y => dGet x y) := by
  refine pe_imp (pe_dget hu ha hb hs) fun σ H Q ⟨F, H0, A, Γ, d, S, hf, q⟩ => ?_
  obtain ⟨x, e1, hf⟩ := bind_ok hf
  obtain ⟨y, e2, hf⟩ := bind_ok hf
  obtain ⟨o, e3, e4⟩ := bind_ok hf
  cases o with
  | none => cases e4
  | some d' =>
    cases e4
    refine ⟨F, H0, A, Γ, x, S, e1, fun v1 H1 x1 r1 => ⟨F, H0, A, Γ, y, S.grow x1, e2, fun v2 H2 x2 r2 => ?_⟩⟩
    obtain ⟨p, ov, rfl, g, v, rfl, r3⟩ := ask_ok ((r1.1.move (.ext x2)).move (.weak (cutApp (T := Sb)).1)) (r2.1.move (.weak (cutApp (S := Sa)).2)) e3
    exact ⟨p, v, rfl, g, q _ _ (x1.trans x2) (.sh r3)⟩
theorem de_get1 (hu : X.A.units + 1 < cLine) {o : Expr} {apos cpos : Pos} (m : M1 X o "get" apos e cpos) (ha : PE X o (tE c Sa fa va)) (hb : PE X e (tE c Sb fb vb)) :
    PE X (.Call (.Attribute o "get" apos) [e] [] cpos) (tE c (Sa ++ Sb) false fun Γ => (va Γ).bind fun x => (vb Γ).bind fun y => (dAsk x y).map fun o => o.getD .none) := by
  refine pe_imp (pe_dget1 hu ha hb m) fun σ H Q ⟨F, H0, A, Γ, d, S, hf, q⟩ => ?_
  obtain ⟨x, e1, hf⟩ := bind_ok hf
  obtain ⟨y, e2, hf⟩ := bind_ok hf
  obtain ⟨o, e3, e4⟩ := map_ok hf
  subst e4
  refine ⟨F, H0, A, Γ, x, S, e1, fun v1 H1 x1 r1 => ?_⟩
  have isd : ∃ p, v1 = .ref p ∧ IsD H1 p := by
    cases x with
    | dict es =>
      obtain ⟨r1, _⟩ := r1
      cases r1 with
      | dicK n h r => exact ⟨_, rfl, .inl ⟨_, .inl h⟩⟩
      | dicT n h r => exact ⟨_, rfl, .inr ⟨_, .inl h⟩⟩
    | _ => simp [dAsk] at e3
  obtain ⟨p, rfl, hd⟩ := isd
  refine ⟨p, rfl, hd, F, H0, A, Γ, y, S.grow x1, e2, fun v2 H2 x2 r2 => ?_⟩
  obtain ⟨p', ov, e5, g, r3⟩ := ask_ok ((r1.1.move (.ext x2)).move (.weak (cutApp (T := Sb)).1)) (r2.1.move (.weak (cutApp (S := Sa)).2)) e3
  cases e5
  refine ⟨ov, g, q _ _ (x1.trans x2) (.sh ?_)⟩
  cases o with
  | none =>
    have e : ov = none := r3
    subst e
    exact .non
  | some d' =>
    obtain ⟨v, rfl, r3⟩ := r3
    exact r3
theorem de_get2 (hu : X.A.units + 1 < cLine) {o f : Expr} {apos cpos : Pos} {Sf : List Nat} {ff : Bool} {vf : Gm → Option D} (m : M2 X o "get" apos e f cpos) (ha : PE X o (tE c Sa fa va)) (hb : PE X e (tE c Sb fb vb)) (hf : PE X f (tE c Sf ff vf)) :
    PE X (.Call (.Attribute o "get" apos) [e, f] [] cpos) (tE c (Sa ++ Sb ++ Sf) false fun Γ => (va Γ).bind fun x => (vb Γ).bind fun y => (vf Γ).bind fun z => (dAsk x y).map fun o => o.getD z) := by
  refine pe_imp (pe_dget2 hu ha hb hf m) fun σ H Q ⟨F, H0, A, Γ, d, S, hf, q⟩ => ?_
  obtain ⟨x, e1, hf⟩ := bind_ok hf
  obtain ⟨y, e2, hf⟩ := bind_ok hf
  obtain ⟨z, e0, hf⟩ := bind_ok hf
  obtain ⟨o, e3, e4⟩ := map_ok hf
  subst e4
  refine ⟨F, H0, A, Γ, x, S, e1, fun v1 H1 x1 r1 => ?_⟩
  have isd : ∃ p, v1 = .ref p ∧ IsD H1 p := by
    cases x with
    | dict es =>
      obtain ⟨r1, _⟩ := r1
      cases r1 with
      | dicK n h r => exact ⟨_, rfl, .inl ⟨_, .inl h⟩⟩
      | dicT n h r => exact ⟨_, rfl, .inr ⟨_, .inl h⟩⟩
    | _ => simp [dAsk] at e3
  obtain ⟨p, rfl, hd⟩ := isd
  refine ⟨p, rfl, hd, F, H0, A, Γ, y, S.grow x1, e2, fun v2 H2 x2 r2 => ⟨F, H0, A, Γ, z, (S.grow x1).grow x2, e0, fun v3 H3 x3 r3 => ?_⟩⟩
  have wk : ∀ T : List Nat, (∀ i ∈ T, i ∈ Sa ++ Sb ++ Sf) → ∀ a, Bn F (cut A (Sa ++ Sb ++ Sf)) a → Bn F (cut A T) a := fun T h a => Bn.cut_mono h
  obtain ⟨p', ov, e5, g, r4⟩ := ask_ok ((r1.1.move (.ext (x2.trans x3))).move (.weak (wk Sa (by simp +contextual)))) ((r2.1.move (.ext x3)).move (.weak (wk Sb (by simp +contextual)))) e3
  cases e5
  refine ⟨ov, g, q _ _ (x1.trans (x2.trans x3)) (.sh ?_)⟩
  cases o with
  | none =>
    have e : ov = none := r4
    subst e
    exact r3.1.move (.weak (wk Sf (by simp +contextual)))
  | some d' =>
    obtain ⟨v, rfl, r4⟩ := r4
    exact r4
end
end Dl

set_option Elab.async false
set_option linter.all false
set_option maxRecDepth 100000
set_option maxHeartbeats 4000000
/-! Dl7: slices, calls, what a loop walks, by data. -/
namespace Dl
open PySem PySem.Spec PyProof.Rows L2
section
variable {X : Cx} {c : Cc} {a b e : Expr} {es : List Expr} {Sa Sb Se : List Nat} {fa fb fe fr : Bool} {va vb ve : Gm → Option D} {vs : Gm → Option (List D)} {pos p2 : Pos}
/-! ### slices -/
def tOs (c : Cc) (f : Gm → Option (Option Int)) : TO := fun σ H Q => ∃ (F : Addr → Prop) (H0 : Hp) (A : AM) (Γ : Gm) (o : Option Int), StR c F H0 H A σ Γ ∧ f Γ = some o ∧ ∀ H', Ext H H' → Q o H'
theorem po_imp {o : Option Expr} {t t' : TO} (h : PO X o t) (i : ∀ σ H Q, t' σ H Q → t σ H Q) : PO X o t' := ⟨fun pins s σ H Q I q => h.run pins s σ H Q I (i _ _ _ q)⟩
theorem do_none : PO X none (tOs c fun _ => some none) := po_imp po_none fun σ H Q ⟨F, H0, A, Γ, o, S, hf, q⟩ => by
  cases hf
  exact q H (.refl H)
def asI : D → Option Int
  | .int i => some i
  | _ => none
theorem asI_of {d : D} {i : Int} (h : asI d = some i) : d = .int i := by
  cases d <;> cases h
  rfl
theorem do_some (he : PE X e (tE c Se fe ve)) : PO X (some e) (tOs c fun Γ => ((ve Γ).bind asI).map some) := po_imp (po_some he) fun σ H Q ⟨F, H0, A, Γ, o, S, hf, q⟩ => by
  obtain ⟨i, e1, e2⟩ := map_ok hf
  obtain ⟨d, e3, e4⟩ := bind_ok e1
  have := asI_of e4
  subst this e2
  refine ⟨F, H0, A, Γ, _, S, e3, fun v H1 x1 r1 => ?_⟩
  obtain ⟨r1, _⟩ := r1
  cases r1
  exact ⟨i, rfl, q H1 x1⟩
theorem de_slc {lo hi : Option Expr} {fl fh : Gm → Option (Option Int)} {fo : D → Option Int → Option Int → Option D} (ho : SlR X (rDS c fo fr)) (he : PE X e (tE c Se fe ve)) (hl : PO X lo (tOs c fl)) (hh : PO X hi (tOs c fh)) :
    PE X (.Subscript e (.Slice lo hi none p2) pos) (tE c Se fr fun Γ => (ve Γ).bind fun x => (fl Γ).bind fun l => (fh Γ).bind fun h => fo x l h) := by
  refine pe_imp (pe_slice ho he hl hh) fun σ H Q ⟨F, H0, A, Γ, d, S, hf, q⟩ => ?_
  obtain ⟨x, e1, hf⟩ := bind_ok hf
  obtain ⟨l, e2, hf⟩ := bind_ok hf
  obtain ⟨h, e3, hf⟩ := bind_ok hf
  exact ⟨F, H0, A, Γ, x, S, e1, fun v1 H1 x1 r1 => ⟨F, H0, A, Γ, l, S.grow x1, e2, fun H2 x2 => ⟨F, H0, A, Γ, h, (S.grow x1).grow x2, e3, fun H3 x3 =>
    ⟨_, x, d, (((S.grow x1).grow x2).grow x3).trk _, r1.1.move (.ext (x2.trans x3)), hf, fun v H' x4 r4 => q v H' (x1.trans (x2.trans (x3.trans x4))) (r4.back (x1.trans (x2.trans x3)))⟩⟩⟩⟩

/-! ### calls -/
/-- a def's promise by data: n arguments, what it hands back -/
def spD (c : Cc) (n : Nat) (φ : List D → Option D) : Sp := fun vs H Q _ => ∃ (F : Addr → Prop) (ds : List D) (d : D), Trk H F ∧ (∀ p ∈ c.tabs, GxR.TabG H p) ∧ RepL c.K H F vs ds ∧ ds.length = n ∧ φ ds = some d ∧ ∀ v H', Ext H H' → Rep c.K H' F v d → Q v H'
theorem spD_len {c : Cc} {n : Nat} {φ : List D → Option D} {vs : List V} {H : Hp} {Q : VK} {E : XK} (h : spD c n φ vs H Q E) : vs.length = n := by
  obtain ⟨F, ds, d, _, _, r, hl, _⟩ := h
  rw [r.length, hl]
def noStars (es : List Expr) (env : Env) : Prop := ∀ pos, (backTo pos (starEach es env)).any (·.1) = false ∧ (backTo pos (starEach es env)).all (fun x => !x.1) = true
theorem noStars_nil {env : Env} : noStars [] env := fun pos => ⟨rfl, rfl⟩
theorem noStars_cons {env : Env} (h : starEach (e :: es) env = (false, eval e env) :: starEach es env) (t : noStars es env) : noStars (e :: es) env := fun pos => by
  rw [h]
  have q := t pos
  constructor
  · show (false || (backTo pos (starEach es env)).any (·.1)) = false
    rw [q.1]
    rfl
  · show (!false && (backTo pos (starEach es env)).all (fun x => !x.1)) = true
    rw [q.2]
    rfl
theorem de_call {k n : Nat} {f : Addr} {fd : FuncData} {ps : List Str} {φ : List D → Option D} {x : Str} {p : Pos} (F : FnOk X.prog X.w X.K X.mg X.base CX0 k f fd ps (spD c n φ)) (hr : Room k X.A) (hg : Gl X x) (hm : X.mg x = some (.ref f)) (hk : PySem.W.keepIn X.K (.ref f) = true)
    (hb : L2.Binds X.K fd ps []) (ha : PA X (e :: es) (tAs c Sa vs)) (hd : (x == ("__debug__" : Str)) = false) (he : starEach (e :: es) X.env = (false, eval e X.env) :: starEach es X.env) (hs : noStars es X.env) (hn : ∀ Γ ds, vs Γ = some ds → ds.length = n) :
    PE X (.Call (.Name x p) (e :: es) [] pos) (tE c Sa false fun Γ => (vs Γ).bind φ) := by
  refine pe_imp (pe_call F hr hg hm hk hb .nil pass0 ha hd he (hs pos).1) fun σ H Q ⟨F, H0, A, Γ, d, S, hf, q⟩ => ?_
  obtain ⟨ds, e1, hf⟩ := bind_ok hf
  refine ⟨F, H0, A, Γ, ds, S, e1, fun ws H1 x1 r1 => ⟨Bn F (cut A Sa), ds, d, (S.grow x1).trk _, (S.grow x1).tab, by rw [List.append_nil]; exact r1, hn Γ ds e1, hf, fun v H' x2 r2 => q v H' (x1.trans x2) (.sh r2)⟩⟩
theorem de_callB {id : String} {fo : List D → Option D} {x : Str} {p : Pos} (hc : CallR X (.builtin id) (rDN c fo fr)) (hg : Gl X x) (hm : X.mg x = none) (hv : bootBuiltins x = some (.builtin id)) (ha : PA X (e :: es) (tAs c Sa vs)) (hn : x ≠ "__name__") (hd : (x == ("__debug__" : Str)) = false)
    (he : starEach (e :: es) X.env = (false, eval e X.env) :: starEach es X.env) (hs : noStars es X.env) :
    PE X (.Call (.Name x p) (e :: es) [] pos) (tE c Sa fr fun Γ => (vs Γ).bind fo) := by
  refine pe_imp (pe_callB hc hg hm hv ha hn hd he (hs pos).1) fun σ H Q ⟨F, H0, A, Γ, d, S, hf, q⟩ => ?_
  obtain ⟨ds, e1, hf⟩ := bind_ok hf
  exact ⟨F, H0, A, Γ, ds, S, e1, fun ws H1 x1 r1 => ⟨_, ds, d, (S.grow x1).trk _, r1, hf, fun v H' x2 r2 => q v H' (x1.trans x2) (r2.back x1)⟩⟩
theorem de_callT {T : String} {fo : List D → Option D} {x : Str} {p : Pos} (hc : CallR X (.type T) (rDN c fo fr)) (hg : Gl X x) (hm : X.mg x = none) (hv : bootBuiltins x = some (.type T)) (ha : PA X (e :: es) (tAs c Sa vs)) (hn : x ≠ "__name__") (hd : (x == ("__debug__" : Str)) = false)
    (he : starEach (e :: es) X.env = (false, eval e X.env) :: starEach es X.env) (hs : noStars es X.env) :
    PE X (.Call (.Name x p) (e :: es) [] pos) (tE c Sa fr fun Γ => (vs Γ).bind fo) := by
  refine pe_imp (pe_callTy hc hg hm hv ha hn hd he (hs pos).1) fun σ H Q ⟨F, H0, A, Γ, d, S, hf, q⟩ => ?_
  obtain ⟨ds, e1, hf⟩ := bind_ok hf
  exact ⟨F, H0, A, Γ, ds, S, e1, fun ws H1 x1 r1 => ⟨_, ds, d, (S.grow x1).trk _, r1, hf, fun v H' x2 r2 => q v H' (x1.trans x2) (r2.back x1)⟩⟩
theorem de_isa {T : String} {x y : Str} {p p' : Pos} (hK : X.K = c.K) (hg : Gl X x) (hm : X.mg x = none) (hv : bootBuiltins x = some (.builtin "isinstance")) (hgT : Gl X y) (hmT : X.mg y = none) (hvT : bootBuiltins y = some (.type T)) (ha : PE X e (tE c Se fe ve))
    (hn : x ≠ "__name__") (hd : (x == ("__debug__" : Str)) = false) (hn2 : y ≠ "__name__") (hd2 : (y == ("__debug__" : Str)) = false) (he : ∀ es, starEach (e :: es) X.env = (false, eval e X.env) :: starEach es X.env) :
    PE X (.Call (.Name x p) [e, .Name y p'] [] pos) (tE c [] true fun Γ => (ve Γ).bind fun d => (dIsa T d).map .bool) := by
  have hT : PE X (.Name y p') (tC (.ty T)) := pe_bltn hgT hmT hvT rfl hn2 hd2
  refine pe_imp (pe_callB (od_isa hK) hg hm hv (pa_cons ha (pa_cons hT pa_nil) (he _)) hn hd (he _) rfl) fun σ H Q ⟨F, H0, A, Γ, d, S, hf, q⟩ => ?_
  obtain ⟨x, e1, hf⟩ := bind_ok hf
  obtain ⟨b, e2, hf⟩ := map_ok hf
  subst hf
  exact ⟨F, H0, A, Γ, x, S, e1, fun v1 H1 x1 r1 => ⟨_, v1, T, x, b, rfl, r1.1, e2, q _ _ x1 (.plain (.bl _) fun _ => rfl)⟩⟩

/-! ### what a loop walks -/
/-- what stands and is not banned -/
noncomputable def base (F : Addr → Prop) (H : Hp) (A : AM) : Hp := by
  classical
  exact fun b => if Bn F A b then none else H b
theorem base_some {F : Addr → Prop} {H : Hp} {A : AM} {b : Addr} {o : HO} (h : base F H A b = some o) : H b = some o ∧ ¬ Bn F A b := by
  unfold base at h
  split at h
  · cases h
  · exact ⟨h, by assumption⟩
theorem base_of {F : Addr → Prop} {H : Hp} {A : AM} {b : Addr} {o : HO} (h : H b = some o) (n : ¬ Bn F A b) : base F H A b = some o := by
  unfold base
  rw [if_neg n]
  exact h
theorem base_none {F : Addr → Prop} {H : Hp} {A : AM} {b : Addr} (h : Bn F A b) : base F H A b = none := by
  unfold base
  rw [if_pos h]
theorem base_free {F : Addr → Prop} {H : Hp} {A : AM} {b : Addr} (h : H b = none) : base F H A b = none := by
  cases e : base F H A b with
  | none => rfl
  | some o =>
    rw [(base_some e).1] at h
    cases h
theorem base_ext {F : Addr → Prop} {H : Hp} {A : AM} : Ext (base F H A) H := ⟨fun b o h _ => (base_some h).1, fun b ps h => ⟨ps, (base_some h).1, id⟩⟩
structure Wk (c : Cc) (J : It) (ds : List D) (H1 : Hp) : Prop where
  goes : ∀ i H, i < ds.length → Ext H1 H → J.go i H
  stops : ∀ H, Ext H1 H → J.stop ds.length H
  yields : ∀ i H x H' (B : Addr → Prop), i < ds.length → Ext H1 H → Trk H B → (∀ a, B a → H1 a = none) → J.yld i H x H' → Ext H H' ∧ ∃ d, ds[i]? = some d ∧ Rep c.K H' B x d
def tIt (c : Cc) (S : List Nat) (f : Gm → Option (List D)) : TI := fun σ H R => ∃ (F : Addr → Prop) (H0 : Hp) (A : AM) (Γ : Gm) (ds : List D), StR c F H0 H A σ Γ ∧ f Γ = some ds ∧ ∀ J H', Ext H H' → Wk c J ds (base F H' (cut A S)) → ds.length ≤ 16777216 → R J H'
theorem pi_imp {tg : Expr} {w w' : TI} (h : PI X tg e w) (i : ∀ σ H R, w' σ H R → w σ H R) : PI X tg e w' := ⟨fun pins s σ H R I q => h.run pins s σ H R I (i _ _ _ q)⟩
theorem pi_or {tg : Expr} {w w' : TI} (h : PI X tg e w) (h' : PI X tg e w') : PI X tg e (fun σ H R => w σ H R ∨ w' σ H R) := ⟨fun pins s σ H R I q => q.elim (h.run pins s σ H R I) (h'.run pins s σ H R I)⟩
/-- what is not banned stands in the base -/
theorem reb_moves {F : Addr → Prop} {H' : Hp} {A : AM} : Moves H' (Bn F A) (base F H' A) (fun _ => False) :=
  ⟨fun a u n hu h => ⟨base_of h n, id⟩⟩
theorem wk_moves {B : Addr → Prop} {H1 H : Hp} (x : Ext H1 H) (h : ∀ a, B a → H1 a = none) : Moves H1 (fun _ => False) H B :=
  ⟨fun a u n hu e => ⟨x.keep a u e hu, fun z => by
    rw [h a z] at e
    cases e⟩⟩
theorem wk_list {H1 : Hp} {p : Addr} {xs : List V} {ds : List D} (h : SqL c.K H1 p xs) (r : RepL c.K H1 (fun _ => False) xs ds) : Wk c (Itl c.K p) ds H1 where
  goes := fun i H hi x => by
    have hl := r.length
    exact ⟨xs, xs[i]'(by omega), x.seq h, List.getElem?_eq_getElem (by omega)⟩
  stops := fun H x => ⟨xs, x.seq h, by rw [r.length]; exact Nat.le_refl _⟩
  yields := fun i H v H' B hi x t hB hy => by
    obtain ⟨rfl, hy⟩ := hy
    obtain ⟨d, e1, e2⟩ := r.getV (hy xs (x.seq h))
    exact ⟨.refl _, d, e1, e2.move (wk_moves x hB)⟩
theorem wk_tup {H1 : Hp} {p : Addr} {xs : List V} {ds : List D} (h : SqT c.K H1 p xs) (r : RepL c.K H1 (fun _ => False) xs ds) : Wk c (Itt c.K p) ds H1 where
  goes := fun i H hi x => by
    have hl := r.length
    exact ⟨xs, xs[i]'(by omega), x.tup h, List.getElem?_eq_getElem (by omega)⟩
  stops := fun H x => ⟨xs, x.tup h, by rw [r.length]; exact Nat.le_refl _⟩
  yields := fun i H v H' B hi x t hB hy => by
    obtain ⟨rfl, hy⟩ := hy
    obtain ⟨d, e1, e2⟩ := r.getV (hy xs (x.tup h))
    exact ⟨.refl _, d, e1, e2.move (wk_moves x hB)⟩
def dSigns (x : Str) : List D := x.cps.toList.map fun a => .str ⟨#[a]⟩
/-- the items of a thing that is walked -/
def dItems : D → Option (List D)
  | .list ds => some ds
  | .tuple ds => some ds
  | .str x => if fit x.length then some (dSigns x) else none
  | _ => none
/-- what is known of the lengths of lists and tuples -/
def Sized (K : PySem.W.Frag) (v : V) (H : Hp) : Prop := ∀ a xs, v = .ref a → (SqL K H a xs ∨ SqT K H a xs) → xs.length ≤ 16777216
theorem pe_sized {t : TE} (h : PE X e t) : PE X e (fun σ H Q => t σ H fun v H' => Sized X.K v H' → Q v H') := ⟨fun pins s σ H Q I q => thn (h.run pins s σ H _ I q) fun u s1 ⟨v, H1, I1, r1, q1⟩ => ⟨v, H1, I1, r1, q1 fun a xs ev hs => by
  subst ev
  have z := sizeLine_eq
  rcases hs with hs | hs
  · obtain ⟨its, _, _, hl⟩ := I1.list hs
    omega
  · obtain ⟨its, _, _, hl⟩ := I1.tuple hs
    omega⟩⟩
theorem di_seq {tg : Expr} (hK : X.K = c.K) (he : PE X e (tE c Se fe ve)) (hs : PI X tg e (iStr (tE c Se fe ve)) := by first | exact pi_str he | skip) : PI X tg e (tIt c Se fun Γ => (ve Γ).bind dItems) := by
  refine pi_imp (pi_or (pi_list (pe_sized he)) (pi_or (pi_tup (pe_sized he)) hs)) fun σ H R ⟨F, H0, A, Γ, ds, S, hf, q⟩ => ?_
  obtain ⟨d, e1, hf⟩ := bind_ok hf
  cases d with
  | list ds' =>
    cases hf
    refine .inl ⟨F, H0, A, Γ, _, S, e1, fun v H1 x1 r1 hz => ?_⟩
    rw [hK] at hz ⊢
    have S1 := (S.grow x1)
    obtain ⟨p, xs, rfl, h1, h2⟩ := (r1.1.move reb_moves).seqL
    obtain ⟨p', ys, e2, h3, h4⟩ := r1.1.seqL
    cases e2
    exact ⟨p, rfl, ⟨ys, h3⟩, q _ H1 x1 (wk_list h1 h2) (by rw [← h4.length]; exact hz p ys rfl (.inl h3))⟩
  | tuple ds' =>
    cases hf
    refine .inr (.inl ⟨F, H0, A, Γ, _, S, e1, fun v H1 x1 r1 hz => ?_⟩)
    rw [hK] at hz ⊢
    obtain ⟨p, xs, rfl, h1, h2⟩ := (r1.1.move reb_moves).seqT
    obtain ⟨p', ys, e2, h3, h4⟩ := r1.1.seqT
    cases e2
    exact ⟨p, rfl, ⟨ys, h3⟩, q _ H1 x1 (wk_tup h1 h2) (by rw [← h4.length]; exact hz p ys rfl (.inr h3))⟩
  | str x =>
    simp only [dItems] at hf
    split at hf
    · rename_i hz
      cases hf
      refine .inr (.inr ⟨F, H0, A, Γ, _, S, e1, fun v H1 x1 r1 => ?_⟩)
      obtain ⟨r1, _⟩ := r1
      cases r1
      have hz' : (dSigns x).length ≤ 16777216 := by
        unfold dSigns
        rw [List.length_map, Array.length_toList]
        exact of_decide_eq_true hz
      refine ⟨x, rfl, q _ H1 x1 ⟨fun i H hi _ => ?_, fun H _ => ?_, fun i H v H' B hi _ t hB hy => ?_⟩ hz'⟩
      · show i < x.cps.size
        unfold dSigns at hi
        rw [List.length_map, Array.length_toList] at hi
        exact hi
      · show x.cps.size ≤ _
        unfold dSigns
        rw [List.length_map, Array.length_toList]
        exact Nat.le_refl _
      · obtain ⟨rfl, a, h1, rfl⟩ := hy
        refine ⟨.refl _, _, ?_, .str _⟩
        unfold dSigns
        rw [List.getElem?_map, Array.getElem?_toList, h1]
        rfl
    · cases hf
  | none => cases hf
  | bool _ => cases hf
  | int _ => cases hf
  | dict _ => cases hf
theorem di_range1 {tg : Expr} {p : Pos} (hg : Gl X "range") (hm : X.mg "range" = none) (ha : PE X e (tE c Se fe ve)) (hs : starEach [e] X.env = [(false, eval e X.env)]) (hs' : starEach (e :: []) X.env = (false, eval e X.env) :: starEach [] X.env) :
    PI X tg (.Call (.Name "range" p) [e] [] pos) (tIt c [] fun Γ => ((ve Γ).bind asI).bind fun n => if decide (-(2 ^ 62) ≤ n ∧ n ≤ 16777216) then some ((List.range n.toNat).map fun (i : Nat) => .int i) else none) := by
  refine pi_imp (pi_range1 hg hm (pa_cons ha pa_nil hs') hs) fun σ H R ⟨F, H0, A, Γ, ds, S, hf, q⟩ => ?_
  obtain ⟨n, e1, hf⟩ := bind_ok hf
  obtain ⟨d, e2, e3⟩ := bind_ok e1
  have := asI_of e3
  subst this
  split at hf
  · rename_i hz
    have hz := of_decide_eq_true hz
    cases hf
    refine ⟨F, H0, A, Γ, _, S, e2, fun v H1 x1 r1 => ?_⟩
    obtain ⟨r1, _⟩ := r1
    cases r1
    refine ⟨n, rfl, hz.1, by have := hz.2; omega, q _ H1 x1 ⟨fun i H hi x => ?_, fun H x => ?_, fun i H v H' B hi x t hB hy => ?_⟩ (by rw [List.length_map, List.length_range]; have := hz.2; omega)⟩
    · rw [List.length_map, List.length_range] at hi
      exact hi
    · show n.toNat ≤ _
      simp
    · obtain ⟨rfl, rfl⟩ := hy
      have hi' : i < n.toNat := by simpa using hi
      refine ⟨.refl _, .int i, by simp [hi'], ?_⟩
      rw [Int.zero_add]
      exact .int _
  · cases hf
theorem di_range2 {tg : Expr} {p : Pos} (hg : Gl X "range") (hm : X.mg "range" = none) (ha : PE X a (tE c Sa fa va)) (hb : PE X b (tE c Sb fb vb)) (hs : starEach [a, b] X.env = [(false, eval a X.env), (false, eval b X.env)]) (hs2 : starEach [b] X.env = [(false, eval b X.env)])
    (h1 : starEach (a :: [b]) X.env = (false, eval a X.env) :: starEach [b] X.env) (h2 : starEach (b :: []) X.env = (false, eval b X.env) :: starEach [] X.env) :
    PI X tg (.Call (.Name "range" p) [a, b] [] pos) (tIt c [] fun Γ => ((va Γ).bind asI).bind fun m => ((vb Γ).bind asI).bind fun n => if decide ((-(2 ^ 62) ≤ m ∧ m < 2 ^ 62) ∧ (-(2 ^ 62) ≤ n ∧ n < 2 ^ 62) ∧ n - m ≤ 16777216) then some ((List.range (n - m).toNat).map fun (i : Nat) => .int (m + i)) else none) := by
  refine pi_imp (pi_range2 hg hm (pa_cons ha (pa_cons hb pa_nil h2) h1) hs hs2) fun σ H R ⟨F, H0, A, Γ, ds, S, hf, q⟩ => ?_
  obtain ⟨m, e1, hf⟩ := bind_ok hf
  obtain ⟨d, e2, e3⟩ := bind_ok e1
  have := asI_of e3
  subst this
  obtain ⟨n, e1', hf⟩ := bind_ok hf
  obtain ⟨d, e2', e3'⟩ := bind_ok e1'
  have := asI_of e3'
  subst this
  split at hf
  · rename_i hz
    have hz := of_decide_eq_true hz
    cases hf
    refine ⟨F, H0, A, Γ, _, S, e2, fun v H1 x1 r1 => ⟨F, H0, A, Γ, _, S.grow x1, e2', fun v2 H2 x2 r2 => ?_⟩⟩
    obtain ⟨r1, _⟩ := r1
    cases r1
    obtain ⟨r2, _⟩ := r2
    cases r2
    refine ⟨m, n, rfl, ⟨hz.1.1, hz.1.2, hz.2.1.1, hz.2.1.2⟩, q _ H2 (x1.trans x2) ⟨fun i H hi x => ?_, fun H x => ?_, fun i H v H' B hi x t hB hy => ?_⟩ (by rw [List.length_map, List.length_range]; have := hz.2.2; omega)⟩
    · rw [List.length_map, List.length_range] at hi
      exact hi
    · show (n - m).toNat ≤ _
      simp
    · obtain ⟨rfl, rfl⟩ := hy
      have hi' : i < (n - m).toNat := by simpa using hi
      exact ⟨.refl _, .int (m + i), by simp [hi'], .int _⟩
  · cases hf
end
end Dl

set_option Elab.async false
set_option linter.all false
set_option maxRecDepth 100000
set_option maxHeartbeats 4000000
/-! Dl8: the state changed; comprehensions by data. -/
namespace Dl
open PySem PySem.Spec PyProof.Rows L2

/-! ### the slots changed -/
def offG (Γ : Gm) (i : Nat) : Gm := match Γ[i]? with
  | some (some (_, d)) => Γ.set i (some (false, d))
  | _ => Γ
def unown : List Nat → Gm → Gm
  | [], Γ => Γ
  | i :: S, Γ => unown S (offG Γ i)
def wipeG : List Nat → Gm → Gm
  | [], Γ => Γ
  | i :: S, Γ => (wipeG S Γ).set i none
theorem offG_len (Γ : Gm) (i : Nat) : (offG Γ i).length = Γ.length := by
  unfold offG
  split <;> simp
theorem offG_ne {Γ : Gm} {i j : Nat} (h : j ≠ i) : (offG Γ i)[j]? = Γ[j]? := by
  unfold offG
  split
  · rw [List.getElem?_set_ne (Ne.symm h)]
  · rfl
theorem offG_at {Γ : Gm} {i : Nat} {f : Bool} {d : D} (h : (offG Γ i)[i]? = some (some (f, d))) : f = false ∧ ∃ f', Γ[i]? = some (some (f', d)) := by
  unfold offG at h
  split at h
  · rename_i f' d' e
    have hi : i < Γ.length := (List.getElem?_eq_some_iff.mp e).1
    rw [List.getElem?_set_self hi] at h
    cases h
    exact ⟨rfl, f', e⟩
  · rename_i hn
    exact (hn f d h).elim
section
variable {c : Cc} {F : Addr → Prop} {H0 H H' : Hp} {A : AM} {σ : Sl} {Γ : Gm}
theorem StR.lenA (S : StR c F H0 H A σ Γ) {i : Nat} {a : Addr} (h : A i = some a) : i < Γ.length := by
  obtain ⟨d, hd⟩ := S.own i a h
  exact (List.getElem?_eq_some_iff.mp hd).1
theorem cut_cut {A : AM} {S T : List Nat} : cut (cut A S) T = cut A (S ++ T) := by
  funext i
  unfold cut
  by_cases h1 : i ∈ T
  · rw [if_pos h1, if_pos (List.mem_append_right _ h1)]
  · by_cases h2 : i ∈ S
    · rw [if_neg h1, if_pos h2, if_pos (List.mem_append_left _ h2)]
    · rw [if_neg h1, if_neg h2, if_neg (by simp [h1, h2])]
theorem StR.off (S : StR c F H0 H A σ Γ) (i : Nat) : StR c F H0 H (cut A [i]) σ (offG Γ i) where
  len := by rw [offG_len]; exact S.len
  inj := fun j k a h1 h2 => S.inj j k a (cut_some h1).1 (cut_some h2).1
  new := fun j a h => S.new j a (cut_some h).1
  ftr := S.ftr
  sl := fun j f d h => by
    by_cases e : j = i
    · subst e
      obtain ⟨rfl, f', h'⟩ := offG_at h
      rw [if_neg Bool.false_ne_true]
      obtain ⟨v, h1, h2⟩ := S.val h'
      refine ⟨?_, v, h1, h2⟩
      unfold cut
      rw [if_pos List.mem_cons_self]
    · rw [offG_ne e] at h
      have q := S.sl j f d h
      cases f with
      | true =>
        rw [if_pos rfl] at q ⊢
        obtain ⟨a, h1, h2, h3⟩ := q
        exact ⟨a, cut_of h1 (by simpa using e), h2, h3.move (.weak fun b z => z.cut) fun _ _ z => z⟩
      | false =>
        rw [if_neg Bool.false_ne_true] at q ⊢
        obtain ⟨h0, v, h1, h2⟩ := q
        refine ⟨?_, v, h1, h2.move (.weak fun b z => z.cut)⟩
        unfold cut
        split
        · rfl
        · exact h0
  own := fun j a h => by
    obtain ⟨h1, h2⟩ := cut_some h
    obtain ⟨d, hd⟩ := S.own j a h1
    have e : j ≠ i := by simpa using h2
    exact ⟨d, by rw [offG_ne e]; exact hd⟩
  ext := S.ext
  tab := S.tab
theorem StR.unown (S : StR c F H0 H A σ Γ) : ∀ L : List Nat, StR c F H0 H (cut A L) σ (Dl.unown L Γ) := fun L => by
  induction L generalizing A Γ with
  | nil =>
    rw [cut_nil]
    exact S
  | cons i L ih =>
    have q := ih (S.off i)
    rw [cut_cut] at q
    exact q
/-- a shared value is stored -/
theorem StR.set (S : StR c F H0 H A σ Γ) {i : Nat} {v : V} {d : D} (hi : i < Γ.length) (r : Rep c.K H (Bn F (cut A [i])) v d) : StR c F H0 H (cut A [i]) (σ.set i (some v)) (Γ.set i (some (false, d))) where
  len := by simp [S.len]
  inj := fun j k a h1 h2 => S.inj j k a (cut_some h1).1 (cut_some h2).1
  new := fun j a h => S.new j a (cut_some h).1
  ftr := S.ftr
  sl := fun j f d' h => by
    by_cases e : j = i
    · subst e
      rw [List.getElem?_set_self hi] at h
      cases h
      rw [if_neg Bool.false_ne_true]
      refine ⟨?_, v, by rw [List.getElem?_set_self (by rw [S.len]; exact hi)], r⟩
      unfold cut
      rw [if_pos List.mem_cons_self]
    · rw [List.getElem?_set_ne (Ne.symm e)] at h ⊢
      have q := S.sl j f d' h
      cases f with
      | true =>
        rw [if_pos rfl] at q ⊢
        obtain ⟨a, h1, h2, h3⟩ := q
        exact ⟨a, cut_of h1 (by simpa using e), h2, h3.move (.weak fun b z => z.cut) fun _ _ z => z⟩
      | false =>
        rw [if_neg Bool.false_ne_true] at q ⊢
        obtain ⟨h0, w, h1, h2⟩ := q
        refine ⟨?_, w, h1, h2.move (.weak fun b z => z.cut)⟩
        unfold cut
        split
        · rfl
        · exact h0
  own := fun j a h => by
    obtain ⟨h1, h2⟩ := cut_some h
    obtain ⟨d', hd⟩ := S.own j a h1
    have e : j ≠ i := by simpa using h2
    exact ⟨d', by rw [List.getElem?_set_ne (Ne.symm e)]; exact hd⟩
  ext := S.ext
  tab := S.tab
def give (A : AM) (i : Nat) (a : Addr) : AM := fun j => if j = i then some a else cut A [i] j
theorem give_self {i : Nat} {a : Addr} : give A i a i = some a := by
  unfold give
  rw [if_pos rfl]
theorem give_ne {i j : Nat} {a : Addr} (h : j ≠ i) : give A i a j = A j := by
  unfold give
  rw [if_neg h]
  unfold cut
  rw [if_neg (by simpa using h)]
theorem Bn.give {i : Nat} {a b : Addr} (h : Bn F (Dl.give A i a) b) : Bn F (Dl.cut A [i]) b ∨ b = a := by
  rcases h with h | ⟨j, h⟩
  · exact .inl (.inl h)
  · by_cases e : j = i
    · subst e
      rw [give_self] at h
      exact .inr (Option.some.inj h).symm
    · rw [give_ne e] at h
      exact .inl (.inr ⟨j, cut_of h (by simpa using e)⟩)
/-- a new cell is stored: it is the def's own -/
theorem StR.setNew (S : StR c F H0 H A σ Γ) (x : Ext H H') {i : Nat} {a : Addr} {d : D} (hi : i < Γ.length) (ha : H a = none) (r : OwnC c.K H' (fun b => Bn F (cut A [i]) b ∨ b = a) a d) : StR c F H0 H' (give A i a) (σ.set i (some (.ref a))) (Γ.set i (some (true, d))) := by
  have h0 : H0 a = none := S.ext.free ha
  have hF : ¬ F a := fun z => S.free ha (.inl z)
  have hA : ∀ j, A j ≠ some a := fun j z => S.free ha (.inr ⟨j, z⟩)
  have mv : Moves H (Bn F A) H' (fun b => Bn F A b ∨ b = a) := ⟨fun b u n hu e => ⟨x.keep b u e hu, fun z => z.elim n fun z => by
    rw [z, ha] at e
    cases e⟩⟩
  have wk : ∀ b, Bn F (give A i a) b → Bn F A b ∨ b = a := fun b z => z.give.imp Bn.cut id
  have S' := S.grow x
  exact {
    len := by simp [S.len]
    inj := fun j k b h1 h2 => by
      by_cases e1 : j = i
      · by_cases e2 : k = i
        · rw [e1, e2]
        · subst e1
          rw [give_self] at h1
          rw [give_ne e2] at h2
          cases h1
          exact (hA k h2).elim
      · rw [give_ne e1] at h1
        by_cases e2 : k = i
        · subst e2
          rw [give_self] at h2
          cases h2
          exact (hA j h1).elim
        · rw [give_ne e2] at h2
          exact S.inj j k b h1 h2
    new := fun j b h => by
      by_cases e : j = i
      · subst e
        rw [give_self] at h
        cases h
        exact ⟨h0, hF⟩
      · rw [give_ne e] at h
        exact S.new j b h
    ftr := S'.ftr
    sl := fun j f d' h => by
      by_cases e : j = i
      · subst e
        rw [List.getElem?_set_self hi] at h
        cases h
        rw [if_pos rfl]
        exact ⟨a, give_self, by rw [List.getElem?_set_self (by rw [S.len]; exact hi)], r.move (.weak fun b z => z.give) fun _ _ z => z⟩
      · rw [List.getElem?_set_ne (Ne.symm e)] at h ⊢
        have q := S.sl j f d' h
        cases f with
        | true =>
          rw [if_pos rfl] at q ⊢
          obtain ⟨b, h1, h2, h3⟩ := q
          exact ⟨b, by rw [give_ne e]; exact h1, h2, (h3.move mv fun u hu e => x.keep b u e hu).move (.weak wk) fun _ _ z => z⟩
        | false =>
          rw [if_neg Bool.false_ne_true] at q ⊢
          obtain ⟨h0, w, h1, h2⟩ := q
          exact ⟨by rw [give_ne e]; exact h0, w, h1, (h2.move mv).move (.weak wk)⟩
    own := fun j b h => by
      by_cases e : j = i
      · subst e
        exact ⟨d, List.getElem?_set_self hi⟩
      · rw [give_ne e] at h
        obtain ⟨d', hd⟩ := S.own j b h
        exact ⟨d', by rw [List.getElem?_set_ne (Ne.symm e)]; exact hd⟩
    ext := S'.ext
    tab := S'.tab }
/-- a slot is forgotten; what it owned is banned for good -/
theorem StR.wipe1 (S : StR c F H0 H A σ Γ) (i : Nat) : StR c (fun a => F a ∨ A i = some a) H0 H (cut A [i]) (σ.set i none) (Γ.set i none) := by
  have wk : ∀ b, Bn (fun a => F a ∨ A i = some a) (cut A [i]) b → Bn F A b := fun b z => by
    rcases z with (z | z) | ⟨j, z⟩
    · exact .inl z
    · exact .inr ⟨i, z⟩
    · exact .inr ⟨j, (cut_some z).1⟩
  refine ⟨by simp [S.len], fun j k a h1 h2 => S.inj j k a (cut_some h1).1 (cut_some h2).1, fun j a h => ⟨(S.new j a (cut_some h).1).1, fun z => ?_⟩, fun a h => h.elim (S.ftr a) fun z => S.btr (.inr ⟨i, z⟩), fun j f d h => ?_, fun j a h => ?_, S.ext, S.tab⟩
  · rcases z with z | z
    · exact (S.new j a (cut_some h).1).2 z
    · exact (cut_some h).2 (by rw [S.inj j i a (cut_some h).1 z]; exact List.mem_cons_self)
  · by_cases e : j = i
    · subst e
      by_cases hj : j < Γ.length
      · rw [List.getElem?_set_self hj] at h
        cases h
      · rw [List.getElem?_eq_none (by simpa using hj)] at h
        cases h
    · rw [List.getElem?_set_ne (Ne.symm e)] at h ⊢
      have q := S.sl j f d h
      cases f with
      | true =>
        rw [if_pos rfl] at q ⊢
        obtain ⟨a, h1, h2, h3⟩ := q
        exact ⟨a, cut_of h1 (by simpa using e), h2, h3.move (.weak wk) fun _ _ z => z⟩
      | false =>
        rw [if_neg Bool.false_ne_true] at q ⊢
        obtain ⟨h0, w, h1, h2⟩ := q
        refine ⟨?_, w, h1, h2.move (.weak wk)⟩
        unfold cut
        split
        · rfl
        · exact h0
  · obtain ⟨h1, h2⟩ := cut_some h
    obtain ⟨d, hd⟩ := S.own j a h1
    have e : j ≠ i := by simpa using h2
    exact ⟨d, by rw [List.getElem?_set_ne (Ne.symm e)]; exact hd⟩
theorem StR.congF {F' : Addr → Prop} (S : StR c F H0 H A σ Γ) (h : ∀ a, F a ↔ F' a) : StR c F' H0 H A σ Γ := by
  have : F = F' := funext fun a => propext (h a)
  subst this
  exact S
theorem StR.wipe (S : StR c F H0 H A σ Γ) : ∀ L : List Nat, StR c (fun a => F a ∨ ∃ i ∈ L, A i = some a) H0 H (cut A L) (L2.wipe σ L) (wipeG L Γ) := fun L => by
  induction L with
  | nil =>
    rw [cut_nil]
    exact S.congF fun a => by simp
  | cons i L ih =>
    have q := ih.wipe1 i
    have e : cut (cut A L) [i] = cut A (i :: L) := by
      rw [cut_cut]
      funext j
      unfold cut
      simp only [List.mem_append, List.mem_cons, List.not_mem_nil, or_false]
      by_cases h1 : j = i
      · simp [h1]
      · by_cases h2 : j ∈ L <;> simp [h1, h2]
    rw [e] at q
    refine q.congF fun a => ?_
    constructor
    · rintro ((h | ⟨j, hj, h⟩) | h)
      · exact .inl h
      · exact .inr ⟨j, List.mem_cons_of_mem _ hj, h⟩
      · exact .inr ⟨i, List.mem_cons_self, (cut_some h).1⟩
    · rintro (h | ⟨j, hj, h⟩)
      · exact .inl (.inl h)
      · rcases List.mem_cons.mp hj with e | hj
        · subst e
          by_cases hL : j ∈ L
          · exact .inl (.inr ⟨j, hL, h⟩)
          · exact .inr (cut_of h hL)
        · exact .inl (.inr ⟨j, hj, h⟩)
/-- a further ban, of what did not stand -/
theorem StR.ban (S : StR c F H0 H A σ Γ) {p : Addr} {o : HO} (x : Ext H H') (hp : H p = none) (hp' : H' p = some o) : StR c (fun a => F a ∨ a = p) H0 H' A σ Γ := by
  have S' := S.grow x
  have mv : Moves H (Bn F A) H' (Bn (fun a => F a ∨ a = p) A) := ⟨fun a u n hu e => ⟨x.keep a u e hu, fun z => by
    rcases z with (z | z) | z
    · exact n (.inl z)
    · rw [z, hp] at e
      cases e
    · exact n (.inr z)⟩⟩
  refine ⟨S.len, S.inj, fun i a h => ⟨(S.new i a h).1, fun z => ?_⟩, fun a h => h.elim (S'.ftr a) fun z => ⟨o, z ▸ hp'⟩, fun i f d h => ?_, S.own, S'.ext, S'.tab⟩
  · rcases z with z | z
    · exact (S.new i a h).2 z
    · obtain ⟨o', e⟩ := S.btr (.inr ⟨i, h⟩)
      rw [z, hp] at e
      cases e
  · have q := S.sl i f d h
    cases f with
    | true =>
      rw [if_pos rfl] at q ⊢
      obtain ⟨a, h1, h2, h3⟩ := q
      exact ⟨a, h1, h2, h3.move mv fun u hu e => x.keep a u e hu⟩
    | false =>
      rw [if_neg Bool.false_ne_true] at q ⊢
      obtain ⟨h0, v, h2, h3⟩ := q
      exact ⟨h0, v, h2, h3.move mv⟩
end

/-! ### targets -/
/-- a target: a slot, or some slots in parentheses -/
inductive Tg where
  | nm (i : Nat)
  | tp (is : List Nat)
  deriving DecidableEq
def Tg.slots : Tg → List Nat
  | .nm i => [i]
  | .tp is => is
def setAll : List Nat → List D → Gm → Gm
  | i :: is, d :: ds, Γ => setAll is ds (Γ.set i (some (false, d)))
  | _, _, Γ => Γ
def Tg.put (t : Tg) (d : D) (Γ : Gm) : Option Gm := match t with
  | .nm i => if i < Γ.length then some (Γ.set i (some (false, d))) else none
  | .tp is => match d with
    | .tuple ds => if ds.length = is.length ∧ is.all (fun i => decide (i < Γ.length)) = true then some (setAll is ds Γ) else none
    | _ => none
/-- how the slots may have changed -/
def SameOut (σ σ' : Sl) (is : List Nat) : Prop := σ'.length = σ.length ∧ ∀ j, j ∉ is → σ'[j]? = σ[j]?
def tGt (c : Cc) (t : Tg) : TG := fun v σ H Q => ∃ (F : Addr → Prop) (H0 : Hp) (A : AM) (Γ : Gm) (d : D) (Γ' : Gm), StR c F H0 H A σ Γ ∧ Rep c.K H (Bn F A) v d ∧ t.put d Γ = some Γ' ∧ ∀ σ', StR c F H0 H (cut A t.slots) σ' Γ' → SameOut σ σ' t.slots → Q σ' H
section
variable {X : Cx} {c : Cc} {pos : Pos}
theorem pg_imp {e : Expr} {t t' : TG} (h : PG X e t) (i : ∀ v σ H Q, t' v σ H Q → t v σ H Q) : PG X e t' := ⟨fun pins s σ H v u Q I r q => h.run pins s σ H v u Q I r (i _ _ _ _ q)⟩
theorem SameOut.set {σ : Sl} {i : Nat} {o : Option V} : SameOut σ (σ.set i o) [i] := ⟨by simp, fun j hj => by rw [List.getElem?_set_ne (fun e => hj (by rw [e]; exact List.mem_cons_self))]⟩
theorem dg_nm {i : Nat} {x : Str} (hN : X.N.Nodup) (hi : X.N[i]? = some x) (hx : Loc X.env.scope x) (hf : X.fn x = true ∨ X.env.scope.names.lookup x = some .local) : PG X (.Name x pos) (tGt c (.nm i)) := by
  refine pg_imp (pg_name hN hi hx hf) fun v σ H Q ⟨F, H0, A, Γ, d, Γ', S, r, hp, q⟩ => ?_
  unfold Tg.put at hp
  simp only at hp
  split at hp
  · rename_i hl
    cases hp
    exact q _ (S.set hl (r.move (.weak fun b z => z.cut))) SameOut.set
  · cases hp
/-- the slots are pairwise different names; their rules -/
def gSlots : List Nat → TGs
  | [] => gNil
  | i :: is => gCons (gName i) (gSlots is)
theorem setAll_len : ∀ (is : List Nat) (ds : List D) (Γ : Gm), (setAll is ds Γ).length = Γ.length
  | [], _, _ => rfl
  | _ :: _, [], _ => rfl
  | i :: is, d :: ds, Γ => by
    unfold setAll
    rw [setAll_len is ds]
    simp
theorem gSlots_ok {F : Addr → Prop} {H0 H : Hp} : ∀ {is : List Nat} {ds : List D} {vs : List V} {A A0 : AM} {σ σ0 : Sl} {Γ : Gm} {Q : Sl → Hp → Prop} {L : List Nat}, StR c F H0 H A σ Γ → RepL c.K H (Bn F A) vs ds → ds.length = is.length → is.all (fun i => decide (i < Γ.length)) = true →
    (∀ σ', StR c F H0 H (cut A is) σ' (setAll is ds Γ) → SameOut σ σ' is → Q σ' H) → gSlots is vs σ H Q
  | [], [], vs, A, A0, σ, σ0, Γ, Q, L, S, r, hl, ha, q => by
    cases r
    exact ⟨rfl, q σ (by rw [cut_nil]; exact S) ⟨rfl, fun _ _ => rfl⟩⟩
  | [], _ :: _, vs, A, A0, σ, σ0, Γ, Q, L, S, r, hl, ha, q => by simp at hl
  | _ :: _, [], vs, A, A0, σ, σ0, Γ, Q, L, S, r, hl, ha, q => by simp at hl
  | i :: is, d :: ds, vs, A, A0, σ, σ0, Γ, Q, L, S, r, hl, ha, q => by
    cases r with
    | cons r1 r2 =>
      simp only [List.all_cons, Bool.and_eq_true, decide_eq_true_eq] at ha
      have S2 := S.set (i := i) ha.1 (r1.move (.weak fun b z => z.cut))
      refine ⟨_, _, rfl, gSlots_ok (A0 := A) (σ0 := σ) (L := L) S2 (r2.move (.weak fun b z => z.cut)) (by simpa using hl) (by simpa using ha.2) fun σ' S3 so => q σ' ?_ ⟨by rw [so.1]; simp, fun j hj => ?_⟩⟩
      · rw [cut_cut] at S3
        exact S3
      · simp only [List.mem_cons, not_or] at hj
        rw [so.2 j hj.2, List.getElem?_set_ne (Ne.symm hj.1)]
theorem dg_tp {es : List Expr} {is : List Nat} {k : Nat} (hK : X.K = c.K) (hc : X.calm = true) (h : PGs X es (gSlots is)) (hn : (assignEach es X.env).length = is.length) (hst : (assignEach es X.env).findIdx? (·.1) = none) : PG X (.Tuple es k pos) (tGt c (.tp is)) := by
  refine pg_imp (pg_tup hc h hn hst) fun v σ H Q ⟨F, H0, A, Γ, d, Γ', S, r, hp, q⟩ => ?_
  unfold Tg.put at hp
  simp only at hp
  split at hp
  · split at hp
    · rename_i ds hl
      cases hp
      obtain ⟨a, xs, rfl, h1, h2⟩ := r.seqT
      rw [hK]
      exact ⟨a, xs, rfl, h1, by rw [h2.length]; exact hl.1, gSlots_ok (A0 := A) (σ0 := σ) (L := []) S h2 hl.1 hl.2 fun σ' S' so => q σ' S' so⟩
    · cases hp
  · cases hp

/-! ### comprehensions -/
def compL (step : D → Option (Option D)) : List D → Option (List D)
  | [] => some []
  | d :: ds => (step d).bind fun o => (compL step ds).map fun r => match o with
    | some x => x :: r
    | none => r
def stepC (t : Tg) (tt : Gm → Option Bool) (ve : Gm → Option D) (Γ : Gm) (d : D) : Option (Option D) := (t.put d Γ).bind fun Γ1 => (tt Γ1).bind fun k => if k = true then (ve Γ1).map some else some none
def blkG (vs S : List Nat) (Γ : Gm) : Gm := wipeG vs (unown S Γ)
def outS (S vs : List Nat) : List Nat := S.filter fun i => !vs.contains i
theorem mem_outS {S vs : List Nat} {i : Nat} : i ∈ outS S vs ↔ i ∈ S ∧ i ∉ vs := by simp [outS]
theorem pts_imp {ifs : List Expr} {t t' : TT} (h : PTs X ifs t) (i : ∀ σ H Q, t' σ H Q → t σ H Q) : PTs X ifs t' := ⟨fun pins s σ H Q I q => h.run pins s σ H Q I (i _ _ _ q)⟩
theorem dts_nil : PTs X [] (tTs c fun _ => some true) := pts_imp pts_nil fun σ H Q ⟨F, H0, A, Γ, b, S, hf, q⟩ => by
  cases hf
  exact q H (.refl H)
theorem dts_one {t : Expr} {tt : Gm → Option Bool} (h : PT X t (tTs c tt)) : PTs X [t] (tTs c tt) := pts_one h
/-- the state of a block: the caller's, its own slots forgotten, the new cell at D banned -/
theorem StR.blk {F : Addr → Prop} {H0 H H' : Hp} {A : AM} {σ : Sl} {Γ : Gm} {p : Addr} {o : HO} (S : StR c F H0 H A σ Γ) (x : Ext H H') (hp : H p = none) (hp' : H' p = some o) (vs T : List Nat) :
    StR c (fun a => (F a ∨ a = p) ∨ ∃ i ∈ vs, cut A T i = some a) H0 H' (cut (cut A T) vs) (L2.wipe σ vs) (blkG vs T Γ) := ((S.unown T).ban x hp hp').wipe vs
theorem blk_ban {F : Addr → Prop} {A : AM} {p : Addr} {vs T Se : List Nat} {a : Addr} (h : Bn F (cut A (T ++ outS Se vs)) a ∨ a = p) : Bn (fun a => (F a ∨ a = p) ∨ ∃ i ∈ vs, cut A T i = some a) (cut (cut (cut A T) vs) Se) a := by
  rcases h with (h | ⟨i, h⟩) | h
  · exact .inl (.inl (.inl h))
  · obtain ⟨h1, h2⟩ := cut_some h
    simp only [List.mem_append, mem_outS, not_or, not_and, Classical.not_not] at h2
    have h3 := cut_of h1 h2.1
    by_cases hv : i ∈ vs
    · exact .inl (.inr ⟨i, hv, h3⟩)
    · exact .inr ⟨i, cut_of (cut_of h3 hv) fun z => hv (h2.2 z)⟩
  · exact .inl (.inl (.inr h))
theorem wipe_same {σ : Sl} : ∀ {vs is : List Nat} {σ2 : Sl}, (∀ i ∈ is, i ∈ vs) → SameOut (L2.wipe σ vs) σ2 is → L2.wipe σ2 vs = L2.wipe σ vs := fun {vs is σ2} hs so => by
  have len : ∀ (τ : Sl) (L : List Nat), (L2.wipe τ L).length = τ.length := fun τ L => wipe_length τ L
  have at_ : ∀ (τ : Sl) (L : List Nat) (j : Nat), j ∈ L → j < τ.length → (L2.wipe τ L)[j]? = some none := fun τ L => by
    induction L with
    | nil => intro j hj; cases hj
    | cons v L ih =>
      intro j hj hl
      unfold L2.wipe
      by_cases e : v = j
      · subst e
        rw [List.getElem?_set_self (by rw [len]; exact hl)]
      · rw [List.getElem?_set_ne e]
        exact ih j ((List.mem_cons.mp hj).resolve_left (Ne.symm e)) hl
  have ne_ : ∀ (τ : Sl) (L : List Nat) (j : Nat), j ∉ L → (L2.wipe τ L)[j]? = τ[j]? := fun τ L j h => wipe_out h
  have l2 : σ2.length = σ.length := by rw [so.1, len]
  apply List.ext_getElem?
  intro j
  by_cases hj : j ∈ vs
  · by_cases hl : j < σ.length
    · rw [at_ σ2 vs j hj (by omega), at_ σ vs j hj hl]
    · rw [List.getElem?_eq_none (by rw [len]; omega), List.getElem?_eq_none (by rw [len]; omega)]
  · rw [ne_ σ2 vs j hj, so.2 j (fun z => hj (hs j z)), ne_ σ vs j hj]
theorem de_lcR {wi : TI} {S Se vs : List Nat} {t : Tg} {fi : Gm → Option (List D)} {tt : Gm → Option Bool} {ve : Gm → Option D} {fe : Bool} (hi : ∀ σ H R, tIt c S fi σ H R → wi σ H R) (ht : ∀ i ∈ t.slots, i ∈ vs) {σ : Sl} {H : Hp} {Q : VK}
    (h : tE c (S ++ outS Se vs) true (fun Γ => (fi Γ).bind fun ds => (compL (stepC t tt ve (blkG vs S Γ)) ds).map .list) σ H Q) : tLc wi (tGt c t) (tTs c tt) (tE c Se fe ve) vs σ H Q := by
  obtain ⟨F, H0, A, Γ, d, Sr, hf, q⟩ := h
  obtain ⟨ds, e1, hf⟩ := bind_ok hf
  obtain ⟨out, e2, hf⟩ := map_ok hf
  subst hf
  refine hi _ _ _ ⟨F, H0, A, Γ, ds, Sr, e1, fun J H1 x1 wk hz => fun p hp => ?_⟩
  have S1 := Sr.grow x1
  refine ⟨fun i m Hc => m = ds.length - i ∧ i ≤ ds.length ∧ Ext H1 Hc ∧ ∃ av ad rest, Hc p = some (.lst av) ∧ RepL c.K Hc (fun a => Bn F (cut A (S ++ outS Se vs)) a ∨ a = p) av ad ∧ av.length ≤ i ∧ compL (stepC t tt ve (blkG vs S Γ)) (ds.drop i) = some rest ∧ out = ad ++ rest,
    ⟨ds.length, by simp, Nat.zero_le _, ext_upd hp, [], [], out, upd_same, .nil, Nat.zero_le _, e2, rfl⟩, ?_⟩
  rintro i m Hc ⟨rfl, hi', x2, av, ad, rest, hD, rA, hl, e3, rfl⟩
  have e0 : Ext (base F H1 (cut A S)) Hc := base_ext.trans x2
  by_cases hlt : i < ds.length
  · refine .inr ⟨wk.goes i Hc hlt e0, fun H' => Ext H1 H' ∧ ∃ av ad rest, H' p = some (.lst av) ∧ RepL c.K H' (fun a => Bn F (cut A (S ++ outS Se vs)) a ∨ a = p) av ad ∧ av.length ≤ i + 1 ∧ compL (stepC t tt ve (blkG vs S Γ)) (ds.drop (i + 1)) = some rest ∧ _ = ad ++ rest,
      fun H' ⟨a1, a2⟩ => ⟨ds.length - (i + 1), by omega, rfl, hlt, a1, a2⟩, fun v H2 hy => ?_⟩
    have SB := S1.blk x2 hp hD vs S
    have tB : Trk Hc (Bn (fun a => (F a ∨ a = p) ∨ ∃ i ∈ vs, cut A S i = some a) (cut (cut A S) vs)) := fun a h => SB.btr h
    obtain ⟨x3, dd, hd, rv⟩ := wk.yields i Hc v H2 _ hlt e0 tB (fun a h => by
      rcases h with ((h | h) | ⟨i, _, h⟩) | ⟨i, h⟩
      · exact base_none (.inl h)
      · exact base_free (h ▸ hp)
      · exact base_none (.inr ⟨i, h⟩)
      · exact base_none (.inr ⟨i, (cut_some h).1⟩)) hy
    have ed : ds.drop i = dd :: ds.drop (i + 1) := by
      rw [List.drop_eq_getElem_cons hlt]
      rw [List.getElem?_eq_getElem hlt] at hd
      rw [Option.some.inj hd]
    rw [ed] at e3
    unfold compL at e3
    obtain ⟨o, e4, e3⟩ := bind_ok e3
    obtain ⟨r, e5, e3⟩ := map_ok e3
    obtain ⟨Γ1, e6, e4⟩ := bind_ok e4
    obtain ⟨k, e7, e4⟩ := bind_ok e4
    have S2 := SB.grow x3
    refine ⟨_, _, _, _, dd, Γ1, S2, rv, e6, fun σ3 S3 so => ⟨wipe_same ht so, _, _, _, Γ1, k, S3, e7, fun H3 x4 => ?_⟩⟩
    cases k with
    | false =>
      rw [if_neg Bool.false_ne_true] at e4 ⊢
      cases e4
      subst e3
      have xx := x3.trans x4
      exact ⟨x2.trans xx, av, ad, r, xx.keep p _ hD trivial, rA.move (.ext xx), by omega, e5, rfl⟩
    | true =>
      rw [if_pos rfl] at e4 ⊢
      obtain ⟨y, e8, e4⟩ := map_ok e4
      subst e4
      simp only at e3
      subst e3
      refine ⟨_, _, _, Γ1, y, S3.grow x4, e8, fun w H4 x5 r5 => ?_⟩
      have xx := x3.trans (x4.trans x5)
      have hD4 := xx.keep p _ hD trivial
      refine ⟨av, hD4, by have := sizeLine_eq; omega, ?_, av ++ [w], ad ++ [y], r, upd_same, ?_, by simp; omega, e5, by simp⟩
      · refine ⟨fun b o hb n => ?_, fun b ps hb => ?_⟩
        · rw [upd_ne (ne_of_none hb hp)]
          exact (x2.trans xx).keep b o hb n
        · rw [upd_ne (ne_of_none hb hp)]
          exact (x2.trans xx).tab b ps hb
      · have bp : (fun a => Bn F (cut A (S ++ outS Se vs)) a ∨ a = p) p := .inr rfl
        have r6 : Rep c.K H4 (fun a => Bn F (cut A (S ++ outS Se vs)) a ∨ a = p) w y := r5.1.move (.weak fun a z => by
          have z' := blk_ban z
          rcases z' with z' | ⟨j, z'⟩
          · exact .inl z'
          · refine .inr ⟨j, ?_⟩
            obtain ⟨z1, z2⟩ := cut_some z'
            exact cut_of (cut_of z1 fun h => (cut_some z1).2 (ht j h)) z2)
        exact RepL.app ((rA.move (.ext xx)).move (.upd bp)) (.cons (r6.move (.upd bp)) .nil)
  · have e : i = ds.length := by omega
    subst e
    rw [List.drop_length] at e3
    cases e3
    refine .inl ⟨wk.stops Hc e0, q _ _ (x1.trans x2) ?_⟩
    rw [List.append_nil]
    exact ⟨.lst (fun z => S1.free hp z.cut) (.inl hD) (rA.move (.weak fun a z => .inl z)), fun _ _ => ⟨p, rfl, x1.free hp, .lst hD rA⟩⟩

/-- the heap has grown but for one banned cell -/
structure ExtB (p : Addr) (H H' : Hp) : Prop where
  keep : ∀ b o, b ≠ p → H b = some o → NT o → H' b = some o
  tab : ∀ b ps, b ≠ p → H b = some (.tbl ps) → ∃ ps', H' b = some (.tbl ps') ∧ (TriplesOk ps.toList → TriplesOk ps'.toList)
  at_ : ∃ xs, H p = some (.lst xs)
  at' : ∃ xs, H' p = some (.lst xs)
theorem ExtB.ext {p : Addr} {H H1 H' : Hp} (x : ExtB p H H') (h : Ext H1 H) (n : H1 p = none) : Ext H1 H' := by
  have ne : ∀ b o, H1 b = some o → b ≠ p := fun b o e z => by
    rw [z, n] at e
    cases e
  refine ⟨fun b o e hn => x.keep b o (ne b o e) (h.keep b o e hn) hn, fun b ps e => ?_⟩
  obtain ⟨p1, e1, t1⟩ := h.tab b ps e
  obtain ⟨p2, e2, t2⟩ := x.tab b p1 (ne b _ e) e1
  exact ⟨p2, e2, fun z => t2 (t1 z)⟩
theorem StR.growB {F : Addr → Prop} {H0 H H' : Hp} {A : AM} {σ : Sl} {Γ : Gm} {p : Addr} (S : StR c F H0 H A σ Γ) (x : ExtB p H H') (hF : F p) (h0 : H0 p = none) : StR c F H0 H' A σ Γ := by
  obtain ⟨xs, e1⟩ := x.at_
  obtain ⟨ys, e2⟩ := x.at'
  have mv : Moves H (Bn F A) H' (Bn F A) := ⟨fun a u n hu e => ⟨x.keep a u (fun z => n (.inl (z ▸ hF))) e hu, n⟩⟩
  have nA : ∀ i a, A i = some a → a ≠ p := fun i a h z => (S.new i a h).2 (z ▸ hF)
  refine ⟨S.len, S.inj, S.new, fun a h => ?_, fun i f d h => ?_, S.own, x.ext S.ext h0, fun q hq => ?_⟩
  · by_cases e : a = p
    · exact ⟨_, e ▸ e2⟩
    · obtain ⟨o, ho⟩ := S.ftr a h
      cases o with
      | tbl ps =>
        obtain ⟨p', h', _⟩ := x.tab a ps e ho
        exact ⟨_, h'⟩
      | _ => exact ⟨_, x.keep a _ e ho trivial⟩
  · have q := S.sl i f d h
    cases f with
    | true =>
      rw [if_pos rfl] at q ⊢
      obtain ⟨a, h1, h2, h3⟩ := q
      exact ⟨a, h1, h2, h3.move mv fun u hu e => x.keep a u (nA i a h1) e hu⟩
    | false =>
      rw [if_neg Bool.false_ne_true] at q ⊢
      obtain ⟨h0, v, h2, h3⟩ := q
      exact ⟨h0, v, h2, h3.move mv⟩
  · obtain ⟨ps, e, t⟩ := S.tab q hq
    have ne : q ≠ p := fun z => by
      rw [z, e1] at e
      cases e
    obtain ⟨ps', e', t'⟩ := x.tab q ps ne e
    exact ⟨ps', e', t' t⟩
def compF (step : D → Option (List D)) : List D → Option (List D)
  | [] => some []
  | d :: ds => (step d).bind fun o => (compF step ds).map fun r => o ++ r
def stepF (t : Tg) (tt : Gm → Option Bool) (fi : Gm → Option (List D)) (vs1 S1 : List Nat) (t1 : Tg) (tt1 : Gm → Option Bool) (ve : Gm → Option D) (Γ : Gm) (d : D) : Option (List D) :=
  (t.put d Γ).bind fun Γ1 => (tt Γ1).bind fun k => if k = true then (fi Γ1).bind fun ds1 => compL (stepC t1 tt1 ve (blkG vs1 S1 Γ1)) ds1 else some []
theorem de_lc2R {wi wi1 : TI} {S S1 Se vs vs1 : List Nat} {t t1 : Tg} {fi fi1 : Gm → Option (List D)} {tt tt1 : Gm → Option Bool} {ve : Gm → Option D} {fe : Bool} (hi : ∀ σ H R, tIt c S fi σ H R → wi σ H R) (hi1 : ∀ σ H R, tIt c S1 fi1 σ H R → wi1 σ H R) (ht : ∀ i ∈ t.slots, i ∈ vs) (ht1 : ∀ i ∈ t1.slots, i ∈ vs1)
    {σ : Sl} {H : Hp} {Q : VK}
    (h : tE c (S ++ outS (S1 ++ outS Se vs1) vs) true (fun Γ => (fi Γ).bind fun ds => (compF (stepF t tt fi1 vs1 S1 t1 tt1 ve (blkG vs S Γ)) ds).bind fun r => if fit r.length then some (.list r) else none) σ H Q) :
    tLc2 wi (tGt c t) (tTs c tt) wi1 (tGt c t1) (tTs c tt1) (tE c Se fe ve) vs vs1 σ H Q := by
  obtain ⟨F, H0, A, Γ, d, Sr, hf, q⟩ := h
  obtain ⟨ds, e1, hf⟩ := bind_ok hf
  obtain ⟨out, e2, hf⟩ := bind_ok hf
  split at hf
  · rename_i hfit
    have hfit := of_decide_eq_true hfit
    cases hf
    refine hi _ _ _ ⟨F, H0, A, Γ, ds, Sr, e1, fun J H1 x1 wk hz => fun p hp => ?_⟩
    have S1r := Sr.grow x1
    have h0p : H0 p = none := S1r.ext.free hp
    generalize hSx : S ++ outS (S1 ++ outS Se vs1) vs = Sx at q ⊢
    refine ⟨fun i m Hc => m = ds.length - i ∧ i ≤ ds.length ∧ Ext H1 Hc ∧ ∃ av ad rest, Hc p = some (.lst av) ∧ RepL c.K Hc (fun a => Bn F (cut A Sx) a ∨ a = p) av ad ∧ compF (stepF t tt fi1 vs1 S1 t1 tt1 ve (blkG vs S Γ)) (ds.drop i) = some rest ∧ out = ad ++ rest,
      ⟨ds.length, by simp, Nat.zero_le _, ext_upd hp, [], [], out, upd_same, .nil, e2, rfl⟩, ?_⟩
    rintro i m Hc ⟨rfl, hi', x2, av, ad, rest, hD, rA, e3, rfl⟩
    have e0 : Ext (base F H1 (cut A S)) Hc := base_ext.trans x2
    by_cases hlt : i < ds.length
    · refine .inr ⟨wk.goes i Hc hlt e0, fun H' => Ext H1 H' ∧ ∃ av ad' rest', H' p = some (.lst av) ∧ RepL c.K H' (fun a => Bn F (cut A Sx) a ∨ a = p) av ad' ∧ compF (stepF t tt fi1 vs1 S1 t1 tt1 ve (blkG vs S Γ)) (ds.drop (i + 1)) = some rest' ∧ ad ++ rest = ad' ++ rest',
        fun H' ⟨a1, a2⟩ => ⟨ds.length - (i + 1), by omega, rfl, hlt, a1, a2⟩, fun v H2 hy => ?_⟩
      have SB := S1r.blk x2 hp hD vs S
      have tB : Trk Hc (Bn (fun a => (F a ∨ a = p) ∨ ∃ i ∈ vs, cut A S i = some a) (cut (cut A S) vs)) := fun a h => SB.btr h
      obtain ⟨x3, dd, hd, rv⟩ := wk.yields i Hc v H2 _ hlt e0 tB (fun a h => by
        rcases h with ((h | h) | ⟨i, _, h⟩) | ⟨i, h⟩
        · exact base_none (.inl h)
        · exact base_free (h ▸ hp)
        · exact base_none (.inr ⟨i, h⟩)
        · exact base_none (.inr ⟨i, (cut_some h).1⟩)) hy
      have ed : ds.drop i = dd :: ds.drop (i + 1) := by
        rw [List.drop_eq_getElem_cons hlt]
        rw [List.getElem?_eq_getElem hlt] at hd
        rw [Option.some.inj hd]
      rw [ed] at e3
      unfold compF at e3
      obtain ⟨o, e4, e3⟩ := bind_ok e3
      obtain ⟨r, e5, e3⟩ := map_ok e3
      subst e3
      obtain ⟨Γ1, e6, e4⟩ := bind_ok e4
      obtain ⟨k, e7, e4⟩ := bind_ok e4
      have S2 := SB.grow x3
      refine ⟨_, _, _, _, dd, Γ1, S2, rv, e6, fun σ3 S3 so => ⟨wipe_same ht so, _, _, _, Γ1, k, S3, e7, fun H3 x4 => ?_⟩⟩
      cases k with
      | false =>
        rw [if_neg Bool.false_ne_true] at e4 ⊢
        cases e4
        have xx := x3.trans x4
        exact ⟨x2.trans xx, av, ad, r, xx.keep p _ hD trivial, rA.move (.ext xx), e5, by simp⟩
      | true =>
        rw [if_pos rfl] at e4 ⊢
        obtain ⟨ds1, e8, e4⟩ := bind_ok e4
        refine hi1 _ _ _ ⟨_, _, _, Γ1, ds1, S3.grow x4, e8, fun J1 H4 x5 wk1 hz1 => ?_⟩
        have xx := x3.trans (x4.trans x5)
        have hD4 := xx.keep p _ hD trivial
        have S4 := (S3.grow x4).grow x5
        generalize hFo : (fun a => (F a ∨ a = p) ∨ ∃ i ∈ vs, cut A S i = some a) = Fo at S4 wk1
        generalize hAo : cut (cut (cut A S) vs) t.slots = Ao at S4 wk1
        have Fop : Fo p := by
          rw [← hFo]
          exact .inl (.inr rfl)
        refine ⟨fun j k H' => k = ds1.length - j ∧ j ≤ ds1.length ∧ ExtB p H4 H' ∧ Ext H1 H' ∧ ∃ av ad1 rest1, H' p = some (.lst av) ∧ RepL c.K H' (fun a => Bn F (cut A Sx) a ∨ a = p) av ad1 ∧ compL (stepC t1 tt1 ve (blkG vs1 S1 Γ1)) (ds1.drop j) = some rest1 ∧ ad ++ (o ++ r) = ad1 ++ (rest1 ++ r),
          ⟨ds1.length, by simp, Nat.zero_le _, ⟨fun b o _ h _ => h, fun b ps _ h => ⟨ps, h, id⟩, ⟨_, hD4⟩, ⟨_, hD4⟩⟩, x2.trans xx, av, ad, o, hD4, rA.move (.ext xx), e4, rfl⟩, ?_⟩
        rintro j k H5 ⟨rfl, hj', xb, x6, av1, ad1, rest1, hD5, rA5, e9, eo⟩
        have b0 : base Fo H4 (cut Ao S1) p = none := base_none (.inl Fop)
        have e10 : Ext (base Fo H4 (cut Ao S1)) H5 := xb.ext base_ext b0
        by_cases hlt1 : j < ds1.length
        · refine .inr ⟨wk1.goes j H5 hlt1 e10, fun H' => ExtB p H4 H' ∧ Ext H1 H' ∧ ∃ av ad' rest1, H' p = some (.lst av) ∧ RepL c.K H' (fun a => Bn F (cut A Sx) a ∨ a = p) av ad' ∧ compL (stepC t1 tt1 ve (blkG vs1 S1 Γ1)) (ds1.drop (j + 1)) = some rest1 ∧ ad ++ (o ++ r) = ad' ++ (rest1 ++ r),
            fun H' ⟨a0, a1, a2⟩ => ⟨ds1.length - (j + 1), by omega, rfl, hlt1, a0, a1, a2⟩, fun v5 H6 hy5 => ?_⟩
          have S5 := ((S4.growB xb Fop h0p).unown S1).wipe vs1
          have tB5 : Trk H5 _ := fun a h => S5.btr h
          obtain ⟨x7, dd5, hd5, rv5⟩ := wk1.yields j H5 v5 H6 _ hlt1 e10 tB5 (fun a h => by
            rcases h with (h | ⟨i, _, h⟩) | ⟨i, h⟩
            · exact base_none (.inl h)
            · exact base_none (.inr ⟨i, h⟩)
            · exact base_none (.inr ⟨i, (cut_some h).1⟩)) hy5
          have ed5 : ds1.drop j = dd5 :: ds1.drop (j + 1) := by
            rw [List.drop_eq_getElem_cons hlt1]
            rw [List.getElem?_eq_getElem hlt1] at hd5
            rw [Option.some.inj hd5]
          rw [ed5] at e9
          unfold compL at e9
          obtain ⟨o5, f4, e9⟩ := bind_ok e9
          obtain ⟨r5, f5, e9⟩ := map_ok e9
          obtain ⟨Γ5, f6, f4⟩ := bind_ok f4
          obtain ⟨k5, f7, f4⟩ := bind_ok f4
          have S6 := S5.grow x7
          have xB : ∀ {H' : Hp}, Ext H5 H' → ExtB p H4 H' := fun {H'} x => ⟨fun b o n h hn => x.keep b o (xb.keep b o n h hn) hn, fun b ps n h => by
            obtain ⟨p1, g1, t1⟩ := xb.tab b ps n h
            obtain ⟨p2, g2, t2⟩ := x.tab b p1 g1
            exact ⟨p2, g2, fun z => t2 (t1 z)⟩, xb.at_, ⟨_, x.keep p _ hD5 trivial⟩⟩
          refine ⟨_, _, _, _, dd5, Γ5, S6, rv5, f6, fun σ7 S7 so5 => ⟨wipe_same ht1 so5, _, _, _, Γ5, k5, S7, f7, fun H7 x8 => ?_⟩⟩
          cases k5 with
          | false =>
            rw [if_neg Bool.false_ne_true] at f4 ⊢
            cases f4
            subst e9
            have x9 := x7.trans x8
            exact ⟨xB x9, x6.trans x9, av1, ad1, r5, x9.keep p _ hD5 trivial, rA5.move (.ext x9), f5, eo⟩
          | true =>
            rw [if_pos rfl] at f4 ⊢
            obtain ⟨y, f8, f4⟩ := map_ok f4
            subst f4
            simp only at e9
            subst e9
            refine ⟨_, _, _, Γ5, y, S7.grow x8, f8, fun w H8 x9 r9 => ?_⟩
            have x10 := x7.trans (x8.trans x9)
            have hD8 := x10.keep p _ hD5 trivial
            have hlen : av1.length < sizeLine := by
              have e1 := congrArg List.length eo
              have e2 := rA5.length
              have := sizeLine_eq
              simp only [List.length_append, List.length_cons] at e1 hfit
              omega
            have bp : (fun a => Bn F (cut A Sx) a ∨ a = p) p := .inr rfl
            have r10 : Rep c.K H8 (fun a => Bn F (cut A Sx) a ∨ a = p) w y := r9.1.move (.weak fun a z => by
              rcases z with (z | ⟨i, z⟩) | z
              · exact .inl (.inl (by rw [← hFo]; exact .inl (.inl z)))
              · obtain ⟨z1, z2⟩ := cut_some z
                rw [← hSx] at z2
                simp only [List.mem_append, mem_outS, not_or, not_and, Classical.not_not] at z2
                have z3 : cut A S i = some a := cut_of z1 z2.1
                by_cases hv : i ∈ vs
                · exact .inl (.inl (by rw [← hFo]; exact .inr ⟨i, hv, z3⟩))
                · have z4 : Ao i = some a := by
                    rw [← hAo]
                    exact cut_of (cut_of z3 hv) fun h => hv (ht i h)
                  have z5 : ¬ (i ∈ S1 ∨ i ∈ Se ∧ i ∉ vs1) := fun h => hv (z2.2 h)
                  have z6 : cut Ao S1 i = some a := cut_of z4 fun h => z5 (.inl h)
                  by_cases hv1 : i ∈ vs1
                  · exact .inl (.inr ⟨i, hv1, z6⟩)
                  · exact .inr ⟨i, cut_of (cut_of (cut_of z6 hv1) fun h => hv1 (ht1 i h)) fun h => z5 (.inr ⟨h, hv1⟩)⟩
              · exact .inl (.inl (by rw [z]; exact Fop)))
            refine ⟨av1, hD8, hlen, ⟨fun b o n h hn => ?_, fun b ps n h => ?_, xb.at_, ⟨_, upd_same⟩⟩, ⟨fun b o hb n => ?_, fun b ps hb => ?_⟩, av1 ++ [w], ad1 ++ [y], r5, upd_same, RepL.app ((rA5.move (.ext x10)).move (.upd bp)) (.cons (r10.move (.upd bp)) .nil), f5, by rw [eo]; simp⟩
            · rw [upd_ne n]
              exact (xB x10).keep b o n h hn
            · rw [upd_ne n]
              exact (xB x10).tab b ps n h
            · rw [upd_ne (ne_of_none hb hp)]
              exact (x6.trans x10).keep b o hb n
            · rw [upd_ne (ne_of_none hb hp)]
              exact (x6.trans x10).tab b ps hb
        · have e : j = ds1.length := by omega
          subst e
          rw [List.drop_length] at e9
          cases e9
          exact .inl ⟨wk1.stops H5 e10, x6, av1, ad1, r, hD5, rA5, e5, by rw [eo]; simp⟩
    · have e : i = ds.length := by omega
      subst e
      rw [List.drop_length] at e3
      cases e3
      refine .inl ⟨wk.stops Hc e0, q _ _ (x1.trans x2) ?_⟩
      rw [List.append_nil]
      exact ⟨.lst (fun z => S1r.free hp z.cut) (.inl hD) (rA.move (.weak fun a z => .inl z)), fun _ _ => ⟨p, rfl, x1.free hp, .lst hD rA⟩⟩
  · cases hf
end
end Dl

set_option Elab.async false
set_option linter.all false
set_option maxRecDepth 100000
set_option maxHeartbeats 4000000
/-! Dl9: dict comprehensions by data, keys of any kind. -/
namespace Dl
open PySem PySem.Spec PyProof.Rows L2
/-- a key and its value go into a dict of either kind -/
theorem put_comp {X : Cx} {pins : List (Addr × Obj)} {σ : Sl} {H H' : Hp} {s : Shared} {E : Value → Shared → Prop} {q : Addr} {y v : V} {u r : Value} {Q : Unit → Shared → Prop} (hu : X.A.units + 1 < cLine) (I : Inv X pins σ H s) (g : DPut H q y v H') (ry : RelV y u) (rv : RelV v r)
    (h : ∀ s', Inv X pins σ H' s' → Q () s') : wpAny (model X.prog X.w) X.A (dictSet q u r) Q E s := by
  rcases g with ⟨kvs, k, hD, ey, hz, eH⟩ | ⟨kvs, k, b, hD, ey, hb, hz, eH⟩
  · subst ey eH
    exact d_dictSet I hD hz ry rv h
  · subst ey eH
    cases ry
    obtain ⟨z, hd, xs, rel, dd⟩ := dt_of I.hok hD
    have zx : xs.length ≤ sizeLine := by rw [← Paired.length rel]; exact z
    have zp : (putK kvs k v).length ≤ sizeLine := by have := length_putK kvs k v; omega
    refine wpAny_dictSet_heap (hsz := zx) (show (tupleKind (mixKind X.prog X.w)).room X.A from Nat.lt_of_le_of_lt (Nat.le_succ _) hu) (key_of I.hok hb) dd fun h' dd' sb => h _ ?_
    obtain ⟨ob, es, ep, ho, g2, g3, g4, _, g5⟩ := dd'
    refine d_write I (by rw [hD]; exact True.intro) sb ⟨ob, ho⟩ ⟨zp, hd, _, (rel.put k hb rv).keeps fun c ys ec => ?_, ob, es, ep, ho, g2, g3, g4, g5⟩
    rw [upd_ne (ne_of ec hD (fun z => nomatch z))]
    exact ec
section
variable {X : Cx}
/-- what the new dict is at first -/
def ini (tk : Bool) : HO := if tk = true then .dT [] else .dK []
theorem ini_ok {P : Program} {w : World} {H : Hp} (tk : Bool) (h : Heap) (hb : sysModules < h.objs.size) : ObjOk P w H (h.push { cls := .type "dict", data := .dict #[] }) h.objs.size (ini tk) := by
  cases tk with
  | true => exact dt_empty h hb
  | false => exact dk_empty h hb
/-- {k: v for ..}: p the new dict -/
def tDcG (kd : Bool) (wi : TI) (g : TG) (tt : TT) (tk tv : TE) (vs : List Nat) : TE := fun σ H Q => wi σ H fun J H1 => ∀ p, H1 p = none → ∃ W : Nat → Nat → Hp → Prop, (∃ m, W 0 m (upd H1 p (ini kd))) ∧ ∀ i m H, W i m H →
  (J.stop i H ∧ Q (.ref p) H) ∨ (J.go i H ∧ ∃ Nx : Hp → Prop, (∀ H', Nx H' → ∃ m', m' < m ∧ W (i + 1) m' H') ∧ ∀ x H', J.yld i H x H' → g x (L2.wipe σ vs) H' fun σ2 H2 => L2.wipe σ2 vs = L2.wipe σ vs ∧ tt σ2 H2 fun b H3 =>
    if b = true then tk σ2 H3 fun y H4 => tv σ2 H4 fun z H5 => ∃ H6, DPut H5 p y z H6 ∧ Nx H6 else Nx H3)
theorem dcG_core {kd : Bool} {pins : List (Addr × Obj)} {s : Shared} {σ : Sl} {H : Hp} {Q : VK} {kx vx tg iter : Expr} {ifs : List Expr} {scope : Scope} {own : List (Str × Nat)} {pos pos' : Pos} {wi : TI} {g : TG} {tt : TT} {tk tv : TE} {use : Option (Value → Sem Unit)} {Qf : Value → Shared → Prop}
    (hu : X.A.units + 1 < cLine) (hc : X.calm = true) (hN : X.N.Nodup) (I : Inv X pins σ H s) (hi : PI X tg iter wi) (ok : BlkOk X.N X.env.scope scope own)
    (hg : ∀ s H C cl fp, PG (X.blk s H scope (compEnvC scope cl C X.env) fp) tg g) (ht : ∀ s H C cl fp, PTs (X.blk s H scope (compEnvC scope cl C X.env) fp) ifs tt)
    (hk : ∀ s H C cl fp, PE (X.blk s H scope (compEnvC scope cl C X.env) fp) kx tk) (he : ∀ s H C cl fp, PE (X.blk s H scope (compEnvC scope cl C X.env) fp) vx tv) (hs : ∀ x, foldedSetIterable iter X.env x = pure x)
    (h : tDcG kd wi g tt tk tv (own.map (·.2)) σ H Q)
    (hRR : ∀ p C s' m H', Inv X pins σ H' s' → Q (.ref p) H' → s'.heap.Ns C m → FpOk X pins H' C → compPost (model X.prog X.w) X.A X.xe use Qf (.ref p) C (.ok .next) s') :
    wpAny (model X.prog X.w) X.A (comprehension (.DictComp kx vx [⟨tg, iter, ifs, 0⟩] scope pos) scope X.env pos' newDict false (eval iter X.env) use) Qf X.xe s := by
  have capt : ∀ y ∈ scope.names, y.2 = .free → ∃ c, X.env.cells.lookup y.1 = some c := fun y hy e => (ok.free y hy e).elim (fun k => I.ok.has _ (.inl k)) fun k => I.ok.has _ (.inr k)
  refine wpAny_comprehension_free (use := use) rfl hs (closure_ok capt) ok.kind (fun y hy e => by rw [ok.uniq y hy, e]) (thn (hi.run pins s σ H _ I h) fun xv s1 hx => thn hx fun itv s2 z2 => ?_)
  obtain ⟨it, fp, tn, J, H2, e, I2, T, st2, f2, q⟩ := z2
  subst e
  refine wpAny_newObj_type (newEnv_comp ?_)
  generalize hp : s2.heap.objs.size = p
  have pn : H2 p = none := I2.hok.fresh (Nat.le_of_eq hp)
  obtain ⟨W, ⟨m0, w0⟩, turn⟩ := q p pn
  generalize es3 : ({ s2 with heap := s2.heap.push { cls := .type "dict", data := .dict #[] } } : Shared) = s3
  have eh : s3.heap = s2.heap.push { cls := .type "dict", data := .dict #[] } := by rw [← es3]
  have I3 : Inv X pins σ (upd H2 p (ini kd)) s3 := by
    rw [← es3]
    refine I2.laid (t' := s2.toks) (fun b o e => Heap.get?_push_of_some _ e) (Nat.le_of_eq hp) ?_
    rw [← hp]
    exact ini_ok kd s2.heap I2.big
  have below : ∀ b ∈ fp, b < s2.heap.objs.size := fun b hb => let ⟨o, e, _⟩ := T.obj _ _ st2 b hb; Heap.lt_size e
  have f3 : ∀ b ∈ fp, FpOk X pins (upd H2 p (ini kd)) b ∧ b < s3.heap.objs.size := fun b hb => by
    have lt := below b hb
    refine ⟨⟨?_, (f2 b hb).2⟩, by rw [eh, Heap.size_push]; exact Nat.lt_succ_of_lt lt⟩
    rw [upd_ne (by rw [← hp]; exact Nat.ne_of_lt lt)]
    exact (f2 b hb).1
  have st3 : tn 0 s3.heap := T.keep _ _ _ st2 fun b _ o e => by rw [eh]; exact Heap.get?_push_of_some _ e
  have I4 := block_start I3 ok hN f3
  have rg := hg s3 (upd H2 p (ini kd)) s3.heap.objs.size (cellsFrom (s3.heap.objs.size + 1) scope.names (cloFrom X.env.cells scope.names [])) fp
  have rt := ht s3 (upd H2 p (ini kd)) s3.heap.objs.size (cellsFrom (s3.heap.objs.size + 1) scope.names (cloFrom X.env.cells scope.names [])) fp
  have rk := hk s3 (upd H2 p (ini kd)) s3.heap.objs.size (cellsFrom (s3.heap.objs.size + 1) scope.names (cloFrom X.env.cells scope.names [])) fp
  have rv := he s3 (upd H2 p (ini kd)) s3.heap.objs.size (cellsFrom (s3.heap.objs.size + 1) scope.names (cloFrom X.env.cells scope.names [])) fp
  have nf3 : ∀ b ∈ fp, (upd H2 p (ini kd)) b = none := fun b hb => (f3 b hb).1.1
  show codeAny _ _ (.compStart (.DictComp kx vx [⟨tg, iter, ifs, 0⟩] scope pos) 0 (.ref it) (.ref p) (compEnvC scope (cellsFrom (s3.heap.objs.size + 1) scope.names (cloFrom X.env.cells scope.names [])) s3.heap.objs.size X.env)) (compPost (model X.prog X.w) X.A X.xe use Qf (.ref p) s3.heap.objs.size) { s3 with heap := pushCells (s3.heap.push { cls := .type "dict", data := .dict #[] }) scope.names }
  generalize ece : compEnvC scope (cellsFrom (s3.heap.objs.size + 1) scope.names (cloFrom X.env.cells scope.names [])) s3.heap.objs.size X.env = ce at I4 rg rt rk rv ⊢
  have locs : ce.locals = s3.heap.objs.size := by subst ece; rfl
  generalize eH3 : upd H2 p (ini kd) = H3 at I3 I4 rg rt rk rv w0 nf3 f3
  generalize es4 : ({ s3 with heap := pushCells (s3.heap.push { cls := .type "dict", data := .dict #[] }) scope.names } : Shared) = s4 at I4 ⊢
  have st4 : tn 0 s4.heap := T.keep _ _ _ st3 fun b _ o e => by rw [← es4]; exact pushCells_keeps _ _ _ _ (Heap.get?_push_of_some _ e)
  have still : ∀ {σ' : Sl} {H' : Hp} {s' : Shared}, Inv (X.blk s3 H3 scope ce fp) [] σ' H' s' → (∀ b ∈ fp, H' b = none) → ∀ b ∈ fp, FpOk (X.blk s3 H3 scope ce fp) [] H' b := fun {σ' H' s'} J' hn b hb =>
    ⟨hn b hb, (J'.ok.exf b hb).1, J'.ok.exfs b hb, .inl hb, fun x c e => (J'.ok.exf b hb).2 x c e, fun r hr => absurd (show r ∈ ([] : List (Addr × Obj)) ++ [] from hr) (by simp)⟩
  have loop : codeAny (model X.prog X.w) X.A (.compLoop (.DictComp kx vx [⟨tg, iter, ifs, 0⟩] scope pos) 0 (.ref it) (.ref p) ce) (compPost (model X.prog X.w) X.A X.xe use Qf (.ref p) s3.heap.objs.size) s4 := by
    refine compLoop_anyD (fun n s' => ∃ i H', Inv (X.blk s3 H3 scope ce fp) [] (L2.wipe σ (own.map (·.2))) H' s' ∧ tn i s'.heap ∧ (∀ b ∈ fp, H' b = none) ∧ W i n H') ?_ m0 ⟨0, H3, I4, st4, nf3, w0⟩
    rintro n s5 ⟨i, H5, I5, st5, n5, w5⟩
    rcases turn i n H5 w5 with ⟨stop, qq⟩ | ⟨go, Nx, hNx, step⟩
    · refine thnF (T.done (X.blk s3 H3 scope ce fp) rfl rfl rfl hc i [] s5 _ H5 (fun _ _ => False) I5 (still I5 n5) st5 stop) fun r s6 ⟨er, I6⟩ => ?_
      subst er
      have I7 : Inv X pins σ H5 s6 := I3.call' (ch := fp) I6.os I6.base I6.hok I6.bare fun b hb => let z := (f3 b hb).1.2; ⟨z.2.2.1, z.1, z.2.2.2.1, z.2.2.2.2⟩
      have nC : H5 s3.heap.objs.size = none := by rw [← locs]; exact I6.free
      obtain ⟨m, hn, _⟩ := I6.loc
      have hn : s6.heap.Ns s3.heap.objs.size m := by rw [← locs]; exact hn
      exact hRR p s3.heap.objs.size s6 m H5 I7 qq hn (I3.fpOk (Nat.le_refl _) nC)
    · refine thnF (T.item (X.blk s3 H3 scope ce fp) rfl rfl rfl hc i [] s5 _ H5 (fun _ _ => False) I5 (still I5 n5) st5 go) fun r s6 ⟨u, er, z6⟩ => ?_
      subst er
      refine thnF z6 fun _ s7 ⟨x, H7, I7, r7, y7, st7, n7⟩ => ?_
      have Ip := I7.pinned (still I7 n7) (T.obj _ _ st7)
      refine thnF (rg.run _ s7 _ H7 x u _ Ip r7 (step x H7 y7)) fun _ s8 ⟨σ8, H8, I8, w8, q8⟩ => thnF (rt.run _ s8 σ8 H8 _ I8 q8) fun b s9 ⟨H9, I9, q9⟩ => ?_
      have again : ∀ {s' : Shared} {H' : Hp}, Inv (X.blk s3 H3 scope ce fp) ([] ++ pinsAt fp s7.heap) σ8 H' s' → Nx H' → ∃ m, m < n ∧ ∃ i H', Inv (X.blk s3 H3 scope ce fp) [] (L2.wipe σ (own.map (·.2))) H' s' ∧ tn i s'.heap ∧ (∀ b ∈ fp, H' b = none) ∧ W i m H' := fun {s' H'} J' nx => by
        obtain ⟨m', lt, w'⟩ := hNx H' nx
        have pinned : ∀ b ∈ fp, ∀ o, s7.heap.get? b = some o → s'.heap.get? b = some o ∧ H' b = none := fun b hb o e => let z := J'.pin (b, o) (List.mem_append_right _ (List.mem_append_right _ (mem_pinsAt hb e))); ⟨z.1, z.2.1⟩
        refine ⟨m', lt, i + 1, H', (J'.unpinned (pins := [])).weak (by rw [← w8, wipe_length]) (fun j v e => ?_), T.keep _ _ _ st7 fun b hb o e => (pinned b hb o e).1, fun b hb => ?_, w'⟩
        · rw [← w8] at e
          exact (wipe_some e).1
        · obtain ⟨o, e, _⟩ := T.obj _ _ st7 b hb
          exact (pinned b hb o e).2
      cases b with
      | false =>
        rw [if_neg Bool.false_ne_true] at q9 ⊢
        exact again I9 q9
      | true =>
        rw [if_pos rfl] at q9 ⊢
        exact thnF (rk.run _ s9 σ8 H9 _ I9 q9) fun z s10 ⟨yk, H10, I10, r10, q10⟩ => thnF (rv.run _ s10 σ8 H10 _ I10 q10) fun z2 s11 ⟨yv, H11, I11, r11, H12, dp, nx⟩ =>
          put_comp (X := X.blk s3 H3 scope ce fp) hu I11 dp r10 r11 fun s12 I12 => again I12 nx
  exact codeAny_compStart_dict loop (T.self X.A 0 _ _ _ st4 loop)
theorem pe_dcG {kd : Bool} {kx vx tg iter : Expr} {ifs : List Expr} {scope : Scope} {own : List (Str × Nat)} {pos : Pos} {wi : TI} {g : TG} {tt : TT} {tk tv : TE} (hu : X.A.units + 1 < cLine) (hc : X.calm = true) (hN : X.N.Nodup) (hi : PI X tg iter wi) (ok : BlkOk X.N X.env.scope scope own)
    (hg : ∀ s H C cl fp, PG (X.blk s H scope (compEnvC scope cl C X.env) fp) tg g) (ht : ∀ s H C cl fp, PTs (X.blk s H scope (compEnvC scope cl C X.env) fp) ifs tt)
    (hk : ∀ s H C cl fp, PE (X.blk s H scope (compEnvC scope cl C X.env) fp) kx tk) (he : ∀ s H C cl fp, PE (X.blk s H scope (compEnvC scope cl C X.env) fp) vx tv) (hs : ∀ x, foldedSetIterable iter X.env x = pure x) :
    PE X (.DictComp kx vx [⟨tg, iter, ifs, 0⟩] scope pos) (tDcG kd wi g tt tk tv (own.map (·.2))) := by
  refine ⟨fun pins s σ H Q I h => ?_⟩
  rw [arm_eval_DictComp]
  refine dcG_core hu hc hN I hi ok hg ht hk he hs h fun p C s' m H' I' q hn f => ⟨m, hn, fun h'' sb => ?_⟩
  obtain ⟨f0, f1, f2, f3, f4, f5⟩ := f
  exact ⟨.ref p, H', I'.turned (t' := s'.toks) (fun b o hb e => (sb.2 b hb).trans e) f0 f1 f3 f4 f5, rfl, q⟩
/-- name = {..} on one line, the name a local -/
theorem ps_setDcG {kd : Bool} {i : Nat} {y : Str} {py : Pos} {kx vx tg iter : Expr} {ifs : List Expr} {scope : Scope} {own : List (Str × Nat)} {pos spos : Pos} {wi : TI} {g : TG} {tt : TT} {tk tv : TE} (hu : X.A.units + 1 < cLine) (hc : X.calm = true) (hN : X.N.Nodup)
    (hy : X.N[i]? = some y) (hyl : X.env.scope.names.lookup y = some .local) (hsw : swapsWith (.DictComp kx vx [⟨tg, iter, ifs, 0⟩] scope pos) (some (.Name y py)) spos.line X.env = pure true) (hi : PI X tg iter wi) (ok : BlkOk X.N X.env.scope scope own)
    (hg : ∀ s H C cl fp, PG (X.blk s H scope (compEnvC scope cl C X.env) fp) tg g) (ht : ∀ s H C cl fp, PTs (X.blk s H scope (compEnvC scope cl C X.env) fp) ifs tt)
    (hk : ∀ s H C cl fp, PE (X.blk s H scope (compEnvC scope cl C X.env) fp) kx tk) (he : ∀ s H C cl fp, PE (X.blk s H scope (compEnvC scope cl C X.env) fp) vx tv) (hs : ∀ x, foldedSetIterable iter X.env x = pure x) :
    PS X (.Assign [.Name y py] (.DictComp kx vx [⟨tg, iter, ifs, 0⟩] scope pos) spos) (tAsg (tDcG kd wi g tt tk tv (own.map (·.2))) (gName i)) := by
  refine ⟨fun pins s σ H D I h => ?_⟩
  rw [exec_Assign_Name_used _ _ _ _ hsw]
  refine wpAny_bind (wpAny_standAt (wpAny_bind ?_))
  show wpAny _ X.A (do let _ ← comprehension (.DictComp kx vx [⟨tg, iter, ifs, 0⟩] scope pos) scope X.env (firstIterPos [⟨tg, iter, ifs, 0⟩] pos) newDict false (eval iter X.env) (some (assign (.Name y py) X.env))) _ _ s
  have h' : tDcG kd wi g tt tk tv (own.map (·.2)) σ H (fun x H1 => gName i x σ H1 D.nx) := h
  refine wpAny_bind (thn (dcG_core (Qf := fun _ s' => SP X pins D .next s') hu hc hN I hi ok hg ht hk he hs h' fun p C s' m H' I' q hn f => ?_) fun _ s' hq => wpAny_pure (wpAny_pure hq))
  show wpAny _ _ (assign (.Name y py) X.env (.ref p)) _ _ _
  refine wpAny_assign_Name (store_ok2 (v := V.ref p) I' hN hy (.inl hyl) rfl (fun s2 I2 ⟨a, sb, ha⟩ => ?_) (.inr hyl))
  obtain ⟨f0, f1, f2, f3, f4, f5⟩ := f
  have neC : C ≠ a := ha.elim (fun z => by rw [z]; exact f1) fun z e => f4 y a z e.symm
  refine ⟨m, hn.sameBut sb neC, fun h3 sb3 => ?_⟩
  exact ⟨_, H', I2.turned (t' := s2.toks) (fun b o hb e => (sb3.2 b hb).trans e) f0 f1 f3 f4 f5, q⟩
end

/-! ### storing into a dict, by data -/
def dStore (es : List (D × D)) (k v : D) : List (D × D) := if (es.any fun e => PyData.eqv e.1 k) = true then es.map (fun e => if PyData.eqv e.1 k = true then (e.1, v) else e) else es ++ [(k, v)]
def dPut : D → D → D → Option D
  | .dict es, .tuple ks, v => match es with
    | (.dict [], .none) :: r => if ((toKeys ks).isSome && decide (r.length < 16777216)) = true then some (.dict (mk :: dStore r (.tuple ks) v)) else none
    | _ => none
  | .dict es, k, v => if (flat es && (toKey k).isSome && decide (es.length < 16777216)) = true then some (.dict (dStore es k v)) else none
  | _, _, _ => none
section
variable {K : PySem.W.Frag} {H : Hp} {B : Addr → Prop}
theorem RepK.any {k : Key} : ∀ {kvs : List (Key × V)} {es : List (D × D)}, RepK K H B kvs es → (kvs.any fun kv => decide (kv.1 = k)) = es.any fun e => PyData.eqv e.1 (kD k)
  | _, _, .nil => rfl
  | _, _, .cons h t => by rw [List.any_cons, List.any_cons, RepK.any t, eqv_kD]
theorem RepT.any {k : List Key} : ∀ {kvs : List (List Key × V)} {es : List (D × D)}, RepT K H B kvs es → (kvs.any fun kv => decide (kv.1 = k)) = es.any fun e => PyData.eqv e.1 (tkD k)
  | _, _, .nil => rfl
  | _, _, .cons h t => by rw [List.any_cons, List.any_cons, RepT.any t, eqv_tkD]
theorem RepK.rep {k : Key} {v : V} {d : D} (r : Rep K H B v d) : ∀ {kvs : List (Key × V)} {es : List (D × D)}, RepK K H B kvs es → RepK K H B (kvs.map fun kv => if kv.1 = k then (kv.1, v) else kv) (es.map fun e => if PyData.eqv e.1 (kD k) = true then (e.1, d) else e)
  | _, _, .nil => .nil
  | _, _, .cons (k := k') h t => by
    rw [List.map_cons, List.map_cons]
    by_cases e : k' = k
    · have e2 : PyData.eqv (kD k') (kD k) = true := by rw [eqv_kD, decide_eq_true e]
      simp only [e, if_true] at e2 ⊢
      rw [if_pos (by rw [← e]; simpa [e] using e2)]
      exact .cons r (RepK.rep r t)
    · have e2 : ¬ PyData.eqv (kD k') (kD k) = true := by rw [eqv_kD, decide_eq_false e]; exact Bool.false_ne_true
      simp only [e, if_false]
      rw [if_neg e2]
      exact .cons h (RepK.rep r t)
theorem RepT.rep {k : List Key} {v : V} {d : D} (r : Rep K H B v d) : ∀ {kvs : List (List Key × V)} {es : List (D × D)}, RepT K H B kvs es → RepT K H B (kvs.map fun kv => if kv.1 = k then (kv.1, v) else kv) (es.map fun e => if PyData.eqv e.1 (tkD k) = true then (e.1, d) else e)
  | _, _, .nil => .nil
  | _, _, .cons (k := k') h t => by
    rw [List.map_cons, List.map_cons]
    by_cases e : k' = k
    · have e2 : PyData.eqv (tkD k') (tkD k) = true := by rw [eqv_tkD, decide_eq_true e]
      simp only [e, if_true] at e2 ⊢
      rw [if_pos (by rw [← e]; simpa [e] using e2)]
      exact .cons r (RepT.rep r t)
    · have e2 : ¬ PyData.eqv (tkD k') (tkD k) = true := by rw [eqv_tkD, decide_eq_false e]; exact Bool.false_ne_true
      simp only [e, if_false]
      rw [if_neg e2]
      exact .cons h (RepT.rep r t)
theorem RepK.app1 {k : Key} {v : V} {d : D} (r : Rep K H B v d) : ∀ {kvs : List (Key × V)} {es : List (D × D)}, RepK K H B kvs es → RepK K H B (kvs ++ [(k, v)]) (es ++ [(kD k, d)])
  | _, _, .nil => .cons r .nil
  | _, _, .cons h t => .cons h (RepK.app1 r t)
theorem RepT.app1 {k : List Key} {v : V} {d : D} (r : Rep K H B v d) : ∀ {kvs : List (List Key × V)} {es : List (D × D)}, RepT K H B kvs es → RepT K H B (kvs ++ [(k, v)]) (es ++ [(tkD k, d)])
  | _, _, .nil => .cons r .nil
  | _, _, .cons h t => .cons h (RepT.app1 r t)
theorem RepK.put {k : Key} {v : V} {d : D} {kvs : List (Key × V)} {es : List (D × D)} (r : Rep K H B v d) (t : RepK K H B kvs es) : RepK K H B (putK kvs k v) (dStore es (kD k) d) := by
  unfold putK dStore
  rw [t.any (k := k)]
  split
  · exact t.rep r
  · exact t.app1 r
theorem RepT.put {k : List Key} {v : V} {d : D} {kvs : List (List Key × V)} {es : List (D × D)} (r : Rep K H B v d) (t : RepT K H B kvs es) : RepT K H B (putK kvs k v) (dStore es (tkD k) d) := by
  unfold putK dStore
  rw [t.any (k := k)]
  split
  · exact t.rep r
  · exact t.app1 r
/-- storing into a dict of one's own -/
theorem own_put {a : Addr} {y v : V} {dd k d d' : D} (o : OwnC K H B a dd) (ry : Rep K H B y k) (rv : Rep K H B v d) (hB : B a) (h : dPut dd k d = some d') : ∃ o', DPut H a y v (upd H a o') ∧ OwnC K (upd H a o') B a d' ∧ NT o' := by
  have z := sizeLine_eq
  cases o with
  | lst e r => simp [dPut] at h
  | dicK e r =>
    rename_i kvs es
    have hl := r.length
    have go : ∀ kk, k = kD kk → dPut (.dict es) k d = some d' → d' = .dict (dStore es k d) ∧ es.length < 16777216 := fun kk ek h => by
      subst ek
      cases kk <;> (simp only [kD, dPut] at h; split at h <;> first | (rename_i hh; simp only [Bool.and_eq_true, decide_eq_true_eq] at hh; exact ⟨(Option.some.inj h).symm, hh.2⟩) | cases h)
    have hk : ∃ kk, k = kD kk := by
      cases k with
      | int i => exact ⟨.inl i, rfl⟩
      | str x => exact ⟨.inr x, rfl⟩
      | tuple ks =>
        simp only [dPut] at h
        split at h
        · cases r.flat
        · cases h
      | none => simp [dPut, toKey] at h
      | bool b => simp [dPut, toKey] at h
      | list _ => simp [dPut, toKey] at h
      | dict _ => simp [dPut, toKey] at h
    obtain ⟨kk, ek⟩ := hk
    obtain ⟨h1, h2⟩ := go kk ek h
    subst ek h1
    have ey := ry.key
    subst ey
    exact ⟨_, DPut.k e (by omega), .dicK upd_same ((r.put (k := kk) rv).move (.upd hB)), trivial⟩
  | dicT e r =>
    rename_i kvs es
    have hl := r.length
    cases k with
    | tuple ks =>
      simp only [dPut, mk] at h
      split at h
      · rename_i hh
        simp only [Bool.and_eq_true, decide_eq_true_eq] at hh
        cases h
        cases hks : toKeys ks with
        | none => rw [hks] at hh; cases hh.1
        | some kk =>
          have ek := toKeys_of hks
          subst ek
          obtain ⟨b, rfl, hb⟩ := ry.tkey
          exact ⟨_, DPut.t e hb (by omega), .dicT upd_same ((r.put (k := kk) rv).move (.upd hB)), trivial⟩
      · cases h
    | _ => simp [dPut, mk, flat, toKey] at h
end

/-! ### dict comprehensions by data -/
def compD (step : D → Option (Option (D × D))) : List D → D → Option D
  | [], acc => some acc
  | d :: ds, acc => (step d).bind fun o => match o with
    | some (k, v) => (dPut acc k v).bind fun acc' => compD step ds acc'
    | none => compD step ds acc
def stepD (t : Tg) (tt : Gm → Option Bool) (vk vv : Gm → Option D) (Γ : Gm) (d : D) : Option (Option (D × D)) := (t.put d Γ).bind fun Γ1 => (tt Γ1).bind fun k => if k = true then (vk Γ1).bind fun x => (vv Γ1).map fun y => some (x, y) else some none
def iniD (kd : Bool) : D := if kd = true then .dict [mk] else .dict []
section
variable {X : Cx} {c : Cc}
theorem de_dcR {kd : Bool} {wi : TI} {S Sk Sv vs : List Nat} {t : Tg} {fi : Gm → Option (List D)} {tt : Gm → Option Bool} {vk vv : Gm → Option D} {fk fv : Bool} (hi : ∀ σ H R, tIt c S fi σ H R → wi σ H R) (ht : ∀ i ∈ t.slots, i ∈ vs) {σ : Sl} {H : Hp} {Q : VK}
    (h : tE c (S ++ outS (Sk ++ Sv) vs) true (fun Γ => (fi Γ).bind fun ds => compD (stepD t tt vk vv (blkG vs S Γ)) ds (iniD kd)) σ H Q) : tDcG kd wi (tGt c t) (tTs c tt) (tE c Sk fk vk) (tE c Sv fv vv) vs σ H Q := by
  obtain ⟨F, H0, A, Γ, d, Sr, hf, q⟩ := h
  obtain ⟨ds, e1, hf⟩ := bind_ok hf
  refine hi _ _ _ ⟨F, H0, A, Γ, ds, Sr, e1, fun J H1 x1 wk hz => fun p hp => ?_⟩
  have S1 := Sr.grow x1
  have own0 : OwnC c.K (upd H1 p (ini kd)) (fun a => Bn F (cut A (S ++ outS (Sk ++ Sv) vs)) a ∨ a = p) p (iniD kd) := by
    cases kd with
    | true => exact .dicT upd_same .nil
    | false => exact .dicK upd_same .nil
  refine ⟨fun i m Hc => m = ds.length - i ∧ i ≤ ds.length ∧ Ext H1 Hc ∧ ∃ acc, OwnC c.K Hc (fun a => Bn F (cut A (S ++ outS (Sk ++ Sv) vs)) a ∨ a = p) p acc ∧ compD (stepD t tt vk vv (blkG vs S Γ)) (ds.drop i) acc = some d,
    ⟨ds.length, by simp, Nat.zero_le _, ext_upd hp, iniD kd, own0, hf⟩, ?_⟩
  rintro i m Hc ⟨rfl, hi', x2, acc, rA, e3⟩
  have e0 : Ext (base F H1 (cut A S)) Hc := base_ext.trans x2
  obtain ⟨op, hD, hnt⟩ := rA.tracked
  by_cases hlt : i < ds.length
  · refine .inr ⟨wk.goes i Hc hlt e0, fun H' => Ext H1 H' ∧ ∃ acc, OwnC c.K H' (fun a => Bn F (cut A (S ++ outS (Sk ++ Sv) vs)) a ∨ a = p) p acc ∧ compD (stepD t tt vk vv (blkG vs S Γ)) (ds.drop (i + 1)) acc = some d,
      fun H' ⟨a1, a2⟩ => ⟨ds.length - (i + 1), by omega, rfl, hlt, a1, a2⟩, fun v H2 hy => ?_⟩
    have SB := S1.blk x2 hp hD vs S
    have tB : Trk Hc (Bn (fun a => (F a ∨ a = p) ∨ ∃ i ∈ vs, cut A S i = some a) (cut (cut A S) vs)) := fun a h => SB.btr h
    obtain ⟨x3, dd, hd, rv⟩ := wk.yields i Hc v H2 _ hlt e0 tB (fun a h => by
      rcases h with ((h | h) | ⟨i, _, h⟩) | ⟨i, h⟩
      · exact base_none (.inl h)
      · exact base_free (h ▸ hp)
      · exact base_none (.inr ⟨i, h⟩)
      · exact base_none (.inr ⟨i, (cut_some h).1⟩)) hy
    have ed : ds.drop i = dd :: ds.drop (i + 1) := by
      rw [List.drop_eq_getElem_cons hlt]
      rw [List.getElem?_eq_getElem hlt] at hd
      rw [Option.some.inj hd]
    rw [ed] at e3
    unfold compD at e3
    obtain ⟨o, e4, e3⟩ := bind_ok e3
    obtain ⟨Γ1, e6, e4⟩ := bind_ok e4
    obtain ⟨k, e7, e4⟩ := bind_ok e4
    have S2 := SB.grow x3
    refine ⟨_, _, _, _, dd, Γ1, S2, rv, e6, fun σ3 S3 so => ⟨wipe_same ht so, _, _, _, Γ1, k, S3, e7, fun H3 x4 => ?_⟩⟩
    have mvO : ∀ {H' : Hp}, Ext Hc H' → OwnC c.K H' (fun a => Bn F (cut A (S ++ outS (Sk ++ Sv) vs)) a ∨ a = p) p acc := fun {H'} x => rA.move (.ext x) fun u hu e => x.keep p u e hu
    cases k with
    | false =>
      rw [if_neg Bool.false_ne_true] at e4
      cases e4
      refine iteF ?_
      have xx := x3.trans x4
      exact ⟨x2.trans xx, acc, mvO xx, e3⟩
    | true =>
      rw [if_pos rfl] at e4
      refine iteT ?_
      obtain ⟨xk, e8, e4⟩ := bind_ok e4
      obtain ⟨xv, e9, e4⟩ := map_ok e4
      subst e4
      simp only at e3
      obtain ⟨acc', e10, e3⟩ := bind_ok e3
      refine ⟨_, _, _, Γ1, xk, S3.grow x4, e8, fun wk' H4 x5 r5 => ⟨_, _, _, Γ1, xv, (S3.grow x4).grow x5, e9, fun wv H5 x6 r6 => ?_⟩⟩
      have xx := x3.trans (x4.trans (x5.trans x6))
      have inB : ∀ (Se : List Nat), (∀ i ∈ Se, i ∈ Sk ++ Sv) → ∀ a, (Bn F (cut A (S ++ outS (Sk ++ Sv) vs)) a ∨ a = p) → Bn (fun a => (F a ∨ a = p) ∨ ∃ i ∈ vs, cut A S i = some a) (cut (cut (cut (cut A S) vs) t.slots) Se) a := fun Se hse a z => by
        rcases blk_ban z with z' | ⟨j, z'⟩
        · exact .inl z'
        · obtain ⟨z1, z2⟩ := cut_some z'
          exact .inr ⟨j, cut_of (cut_of z1 fun h => (cut_some z1).2 (ht j h)) fun h => z2 (hse j h)⟩
      have bp : (fun a => Bn F (cut A (S ++ outS (Sk ++ Sv) vs)) a ∨ a = p) p := .inr rfl
      obtain ⟨o', dp, own', _⟩ := own_put (mvO xx) ((r5.1.move (.ext x6)).move (.weak (inB Sk (by simp +contextual)))) (r6.1.move (.weak (inB Sv (by simp +contextual)))) bp e10
      refine ⟨_, dp, ⟨fun b o hb n => ?_, fun b ps hb => ?_⟩, acc', own', e3⟩
      · rw [upd_ne (ne_of_none hb hp)]
        exact (x2.trans xx).keep b o hb n
      · rw [upd_ne (ne_of_none hb hp)]
        exact (x2.trans xx).tab b ps hb
  · have e : i = ds.length := by omega
    subst e
    rw [List.drop_length] at e3
    cases e3
    exact .inl ⟨wk.stops Hc e0, q _ _ (x1.trans x2) ⟨rA.share (fun b z => .inl z) fun z => S1.free hp z.cut, fun _ _ => ⟨p, rfl, x1.free hp, rA⟩⟩⟩
end
end Dl

set_option Elab.async false
set_option linter.all false
set_option maxRecDepth 100000
set_option maxHeartbeats 4000000
/-! Dl10: the heads of expressions. -/
namespace Dl
open PySem PySem.Spec PyProof.Rows L2
/-- heads of expressions that are read here -/
def okHead : Expr → Bool
  | .Name .. => true
  | .Constant .. => true
  | .BinOp .. => true
  | .UnaryOp .. => true
  | .BoolOp .. => true
  | .Compare .. => true
  | .Call .. => true
  | .IfExp .. => true
  | .Subscript .. => true
  | .List .. => true
  | .Tuple .. => true
  | .Dict .. => true
  | .ListComp .. => true
  | .DictComp .. => true
  | _ => false
def isComp : Expr → Bool
  | .ListComp .. => true
  | .DictComp .. => true
  | .SetComp .. => true
  | _ => false
theorem head_star {e : Expr} (h : okHead e = true) (es : List Expr) (env : Env) : starEach (e :: es) env = (false, eval e env) :: starEach es env := by
  cases e <;> first | rfl | cases h
theorem head_fold {e : Expr} (h : okHead e = true) (env : Env) (x : Value) : foldedSetIterable e env x = pure x := by
  cases e <;> first | rfl | cases h
theorem head_ix {e : Expr} (h : okHead e = true) (ov iv : Value) : subscripted e false ov iv = operate [ov, iv] (getItem ov iv) := by
  cases e <;> first | rfl | cases h
theorem head_sw {e : Expr} (h : isComp e = false) (t : Option Expr) (l : Nat) (env : Env) : swapsWith e t l env = pure false := by
  cases e <;> first | rfl | cases h

def okBase : Expr → Bool
  | .Call _ [] [] _ => false
  | _ => true
theorem head_base {e : Expr} (h : okBase e = true) (m : Str) (env : Env) (w : Sem Value) : attributeBase e m env w = w := by
  unfold attributeBase
  split
  · cases h
  · rfl
def okTest : Expr → Bool
  | .UnaryOp .Not _ _ => false
  | .BoolOp .. => false
  | .IfExp .. => false
  | .Compare .. => false
  | _ => true
theorem head_truth {e : Expr} (h : okHead e = true) (t : okTest e = true) (env : Env) (whole : Sem Value) : isTrue e env whole = (do let v ← whole; standAt e.pos; holding [v] (truthy v)) := by
  cases e <;> first | (cases h; done) | (cases t; done) | rfl | skip
  rename_i op x p
  cases op <;> first | (cases t; done) | rfl

/-! ### operators by names -/
inductive BOp where
  | add | sub | mul | div | mod | pow
  deriving DecidableEq
def BOp.op : BOp → Operator
  | .add => .Add
  | .sub => .Sub
  | .mul => .Mult
  | .div => .FloorDiv
  | .mod => .Mod
  | .pow => .Pow
def BOp.fo : BOp → D → D → Option D
  | .add => dAdd
  | .sub => dSub
  | .mul => dMul
  | .div => dDiv
  | .mod => dMod
  | .pow => dPow
theorem BOp.ok {X : Cx} {c : Cc} (hK : X.K = c.K) (o : BOp) : OpR X (binaryOp o.op) (rD2 c o.fo true) := by
  cases o
  · exact od_add hK
  · exact od_sub
  · exact od_mul
  · exact od_div
  · exact od_mod
  · exact od_pow
inductive COp where
  | eq | ne | lt | gt | le | ge | mem | nmem | is | nis
  deriving DecidableEq
def COp.op : COp → CmpOp
  | .eq => .Eq
  | .ne => .NotEq
  | .lt => .Lt
  | .gt => .Gt
  | .le => .LtE
  | .ge => .GtE
  | .mem => .In
  | .nmem => .NotIn
  | .is => .Is
  | .nis => .IsNot
def COp.fo : COp → D → D → Option D
  | .eq => dEq
  | .ne => dNe
  | .lt => dLt
  | .gt => dGt
  | .le => dLe
  | .ge => dGe
  | .mem => dIn
  | .nmem => dNotIn
  | .is => dIs
  | .nis => dIsNot
theorem COp.ok {X : Cx} {c : Cc} (hK : X.K = c.K) (hu : X.A.units + 100 < cLine) (o : COp) : OpR X (compareOp o.op) (rD2 c o.fo true) := by
  cases o
  · exact od_eq hK (by omega)
  · exact od_ne hK (by omega)
  · exact od_lt hK (by omega)
  · exact od_gt hK (by omega)
  · exact od_le hK (by omega)
  · exact od_ge hK (by omega)
  · exact od_in hK (by omega)
  · exact od_notin hK (by omega)
  · exact od_is
  · exact od_isnot
theorem COp.isB (o : COp) {a b d : D} (h : o.fo a b = some d) : ∃ k, d = .bool k := by
  cases o <;> simp only [COp.fo, dEq, dNe, dLt, dGt, dLe, dGe, dIn, dNotIn, dIs, dIsNot] at h
  all_goals first
    | (split at h <;> first | (cases h; done) | (cases h; exact ⟨_, rfl⟩))
    | (obtain ⟨z, _, e⟩ := map_ok h; exact ⟨_, e.symm⟩)
/-- built-in functions of values -/
inductive Bi where
  | len | abs | int | tuple | list | sum | all | any | sorted | min | max
  deriving DecidableEq
def Bi.name : Bi → Str
  | .len => "len"
  | .abs => "abs"
  | .int => "int"
  | .tuple => "tuple"
  | .list => "list"
  | .sum => "sum"
  | .all => "all"
  | .any => "any"
  | .sorted => "sorted"
  | .min => "min"
  | .max => "max"
def Bi.val : Bi → Value
  | .len => .builtin "len"
  | .abs => .builtin "abs"
  | .int => .type "int"
  | .tuple => .type "tuple"
  | .list => .type "list"
  | .sum => .builtin "sum"
  | .all => .builtin "all"
  | .any => .builtin "any"
  | .sorted => .builtin "sorted"
  | .min => .builtin "min"
  | .max => .builtin "max"
def Bi.fo : Bi → List D → Option D
  | .len => dLen
  | .abs => dAbs
  | .int => dInt
  | .tuple => dTuple
  | .list => dList
  | .sum => dSum
  | .all => dAll
  | .any => dAny
  | .sorted => dSorted
  | .min => dMin
  | .max => dMax
def Bi.fr : Bi → Bool
  | .min => false
  | .max => false
  | _ => true
theorem Bi.ok {X : Cx} {c : Cc} (hK : X.K = c.K) (hc : X.calm = true) (hu : X.A.units + 100 < cLine) (b : Bi) : CallR X b.val (rDN c b.fo b.fr) := by
  cases b
  · exact od_len hK
  · exact od_abs
  · exact od_int
  · exact od_tuple hK
  · exact od_list hK
  · exact od_sum hK hc
  · exact od_all hK hc
  · exact od_any hK hc
  · exact od_sorted hK (by omega)
  · exact od_min hK hc (by omega)
  · exact od_max hK hc (by omega)
theorem Bi.boot (b : Bi) : bootBuiltins b.name = some b.val := by
  cases b <;> decide +kernel
theorem Bi.kind (b : Bi) : (∃ id, b.val = .builtin id) ∨ ∃ T, b.val = .type T := by
  cases b <;> first | exact .inl ⟨_, rfl⟩ | exact .inr ⟨_, rfl⟩
theorem Bi.ne (b : Bi) : b.name ≠ "__name__" ∧ (b.name == ("__debug__" : Str)) = false := by
  cases b <;> decide +kernel
inductive Ty where
  | int | bool | str | tuple | list
  deriving DecidableEq
def Ty.s : Ty → String
  | .int => "int"
  | .bool => "bool"
  | .str => "str"
  | .tuple => "tuple"
  | .list => "list"
theorem Ty.boot (t : Ty) : bootBuiltins (t.s : Str) = some (.type t.s) := by
  cases t <;> decide +kernel
theorem Ty.ne (t : Ty) : (t.s : Str) ≠ "__name__" ∧ ((t.s : Str) == ("__debug__" : Str)) = false := by
  cases t <;> decide +kernel
end Dl

set_option Elab.async false
set_option linter.all false
set_option maxRecDepth 100000
set_option maxHeartbeats 8000000
/-! Dl11: expressions as terms, their values, and that they are the program's. -/
namespace Dl
open PySem PySem.Spec PyProof.Rows L2

mutual
inductive Ex where
  | var (i : Nat)
  | int (i : Int)
  | str (x : Str)
  | bl (b : Bool)
  | non
  | glb (k : Nat)
  | bin (o : BOp) (a b : Ex)
  | cmp (o : COp) (a b : Ex)
  | chain (o o' : COp) (a b d : Ex)
  | neg (a : Ex)
  | not (a : Ex)
  | and (a b : Ex)
  | or (a b : Ex)
  | one (a : Ex)
  | ite (t a b : Ex)
  | tup (es : Exs)
  | lst (es : Exs)
  | dic (kd : Bool)
  | idx (a b : Ex)
  | dget (a b : Ex)
  | slc (a : Ex) (lo hi : Oe)
  | get1 (o k : Ex)
  | get2 (o k z : Ex)
  | call (f : Nat) (e : Ex) (es : Exs)
  | bi (b : Bi) (e : Ex) (es : Exs)
  | isa (t : Ty) (a : Ex)
  | comp (elt : Ex) (t : Tg) (it : Ir) (cnd : Oe) (vs : List Nat)
  | comp2 (elt : Ex) (t : Tg) (it : Ir) (cnd : Oe) (t1 : Tg) (it1 : Ir) (cnd1 : Oe) (vs vs1 : List Nat)
  | dcomp (kd : Bool) (k v : Ex) (t : Tg) (it : Ir) (cnd : Oe) (vs : List Nat)
inductive Exs where
  | nil
  | cons (e : Ex) (es : Exs)
inductive Oe where
  | no
  | yes (e : Ex)
inductive Ir where
  | seq (e : Ex)
  | rng1 (e : Ex)
  | rng2 (a b : Ex)
end
/-- what hangs on the program alone: texts that are constants, built-in names, defs -/
structure Gx where
  cons : List (Str × Str)
  blt : List Str
  fns : List (Str × Nat)
abbrev Fs := Nat → List D → Option D

mutual
def esc : Ex → List Nat
  | .var i => [i]
  | .int _ => []
  | .str _ => []
  | .bl _ => []
  | .non => []
  | .glb _ => []
  | .bin _ a b => esc a ++ esc b
  | .cmp _ a b => esc a ++ esc b
  | .chain _ _ _ _ _ => []
  | .neg a => esc a
  | .not a => esc a
  | .and a b => esc a ++ esc b
  | .or a b => esc a ++ esc b
  | .one a => esc a
  | .ite _ a b => esc a ++ esc b
  | .tup es => escs es
  | .lst es => escs es
  | .dic _ => []
  | .idx a b => esc a ++ esc b
  | .dget a b => esc a ++ esc b
  | .slc a _ _ => esc a
  | .get1 o k => esc o ++ esc k
  | .get2 o k z => esc o ++ esc k ++ esc z
  | .call _ e es => esc e ++ escs es
  | .bi _ e es => esc e ++ escs es
  | .isa _ _ => []
  | .comp elt _ it _ vs => esci it ++ outS (esc elt) vs
  | .comp2 elt _ it _ _ it1 _ vs vs1 => esci it ++ outS (esci it1 ++ outS (esc elt) vs1) vs
  | .dcomp _ k v _ it _ vs => esci it ++ outS (esc k ++ esc v) vs
def escs : Exs → List Nat
  | .nil => []
  | .cons e es => esc e ++ escs es
def esci : Ir → List Nat
  | .seq e => esc e
  | .rng1 _ => []
  | .rng2 _ _ => []
end
def fre : Ex → Bool
  | .var _ => false
  | .and _ _ => false
  | .or _ _ => false
  | .one a => fre a
  | .ite _ a b => fre a && fre b
  | .tup _ => false
  | .idx _ _ => false
  | .dget _ _ => false
  | .get1 _ _ => false
  | .get2 _ _ _ => false
  | .call _ _ _ => false
  | .bi b _ _ => b.fr
  | _ => true

mutual
def ev (G : Gx) (Φ : Fs) : Ex → Gm → Option D
  | .var i => fun Γ => getG Γ i
  | .int i => fun _ => some (.int i)
  | .str x => fun _ => some (.str x)
  | .bl b => fun _ => some (.bool b)
  | .non => fun _ => some .none
  | .glb k => fun _ => (G.cons[k]?).map fun p => .str p.2
  | .bin o a b => fun Γ => (ev G Φ a Γ).bind fun x => (ev G Φ b Γ).bind fun y => o.fo x y
  | .cmp o a b => fun Γ => (ev G Φ a Γ).bind fun x => (ev G Φ b Γ).bind fun y => o.fo x y
  | .chain o o' a b d => vChain o.fo o'.fo (ev G Φ a) (ev G Φ b) (ev G Φ d)
  | .neg a => fun Γ => (ev G Φ a Γ).bind dNeg
  | .not a => fun Γ => (ev G Φ a Γ).bind dNot
  | .and a b => vAnd (ev G Φ a) (ev G Φ b)
  | .or a b => vOr (ev G Φ a) (ev G Φ b)
  | .one a => ev G Φ a
  | .ite t a b => fun Γ => ((ev G Φ t Γ).bind dTru).bind fun k => if k = true then ev G Φ a Γ else ev G Φ b Γ
  | .tup es => fun Γ => (evs G Φ es Γ).bind fun ds => if fit ds.length then some (.tuple ds) else none
  | .lst es => fun Γ => (evs G Φ es Γ).bind fun ds => if fit ds.length then some (.list ds) else none
  | .dic kd => fun _ => some (iniD kd)
  | .idx a b => fun Γ => (ev G Φ a Γ).bind fun x => (ev G Φ b Γ).bind fun y => dIdx x y
  | .dget a b => fun Γ => (ev G Φ a Γ).bind fun x => (ev G Φ b Γ).bind fun y => dGet x y
  | .slc a lo hi => fun Γ => (ev G Φ a Γ).bind fun x => (evo G Φ lo Γ).bind fun l => (evo G Φ hi Γ).bind fun h => dSlc x l h
  | .get1 o k => fun Γ => (ev G Φ o Γ).bind fun x => (ev G Φ k Γ).bind fun y => (dAsk x y).map fun o => o.getD .none
  | .get2 o k z => fun Γ => (ev G Φ o Γ).bind fun x => (ev G Φ k Γ).bind fun y => (ev G Φ z Γ).bind fun w => (dAsk x y).map fun o => o.getD w
  | .call f e es => fun Γ => (((ev G Φ e Γ).bind fun x => (evs G Φ es Γ).bind fun xs => some (x :: xs))).bind (Φ f)
  | .bi b e es => fun Γ => (((ev G Φ e Γ).bind fun x => (evs G Φ es Γ).bind fun xs => some (x :: xs))).bind b.fo
  | .isa t a => fun Γ => (ev G Φ a Γ).bind fun d => (dIsa t.s d).map .bool
  | .comp elt t it cnd vs => fun Γ => (evi G Φ it Γ).bind fun ds => (compL (stepC t (evc G Φ cnd) (ev G Φ elt) (blkG vs (esci it) Γ)) ds).map .list
  | .comp2 elt t it cnd t1 it1 cnd1 vs vs1 => fun Γ => (evi G Φ it Γ).bind fun ds => (compF (stepF t (evc G Φ cnd) (evi G Φ it1) vs1 (esci it1) t1 (evc G Φ cnd1) (ev G Φ elt) (blkG vs (esci it) Γ)) ds).bind fun r => if fit r.length then some (.list r) else none
  | .dcomp kd k v t it cnd vs => fun Γ => (evi G Φ it Γ).bind fun ds => compD (stepD t (evc G Φ cnd) (ev G Φ k) (ev G Φ v) (blkG vs (esci it) Γ)) ds (iniD kd)
def evs (G : Gx) (Φ : Fs) : Exs → Gm → Option (List D)
  | .nil => fun _ => some []
  | .cons e es => fun Γ => (ev G Φ e Γ).bind fun x => (evs G Φ es Γ).bind fun xs => some (x :: xs)
def evo (G : Gx) (Φ : Fs) : Oe → Gm → Option (Option Int)
  | .no => fun _ => some none
  | .yes e => fun Γ => ((ev G Φ e Γ).bind asI).map some
def evc (G : Gx) (Φ : Fs) : Oe → Gm → Option Bool
  | .no => fun _ => some true
  | .yes e => fun Γ => (ev G Φ e Γ).bind dTru
def evi (G : Gx) (Φ : Fs) : Ir → Gm → Option (List D)
  | .seq e => fun Γ => (ev G Φ e Γ).bind dItems
  | .rng1 e => fun Γ => ((ev G Φ e Γ).bind asI).bind fun n => if decide (-(2 ^ 62) ≤ n ∧ n ≤ 16777216) then some ((List.range n.toNat).map fun (i : Nat) => .int i) else none
  | .rng2 a b => fun Γ => ((ev G Φ a Γ).bind asI).bind fun m => ((ev G Φ b Γ).bind asI).bind fun n => if decide ((-(2 ^ 62) ≤ m ∧ m < 2 ^ 62) ∧ (-(2 ^ 62) ≤ n ∧ n < 2 ^ 62) ∧ n - m ≤ 16777216) then some ((List.range (n - m).toNat).map fun (i : Nat) => .int (m + i)) else none
end

/-! ### that a term is the program's -/
def isVis (sc : Scope) (x : Str) : Bool := match sc.names.lookup x with
  | some .local => true
  | some .cell => true
  | some .free => true
  | _ => false
def isGl (sc : Scope) (x : Str) : Bool := match sc.names.lookup x with
  | some .globalImplicit => true
  | _ => false
def isTgt (fn : Str → Bool) (sc : Scope) (x : Str) : Bool := match sc.names.lookup x with
  | some .local => true
  | some .cell => fn x
  | _ => false
def nameOk (x : Str) : Bool := !(x == ("__debug__" : Str)) && !(x == ("__classdict__" : Str))
def Exs.len : Exs → Nat
  | .nil => 0
  | .cons _ es => es.len + 1
/-- the block's own names with their places -/
def ownOf (N : List Str) (vs : List Nat) : List (Str × Nat) := vs.filterMap fun i => (N[i]?).map fun x => (x, i)
def blkFn (scope : Scope) : Str → Bool := fun x => scope.names.lookup x == some .cell
def chkTs (fn : Str → Bool) (N : List Str) (sc : Scope) : List Nat → List Expr → Bool
  | [], [] => true
  | i :: is, .Name x _ :: es => decide (N[i]? = some x) && isTgt fn sc x && chkTs fn N sc is es
  | _, _ => false
def chkT (fn : Str → Bool) (N : List Str) (sc : Scope) : Tg → Expr → Bool
  | .nm i, .Name x _ => decide (N[i]? = some x) && isTgt fn sc x
  | .tp is, .Tuple es _ _ => chkTs fn N sc is es
  | _, _ => false
def noIte : Ex → Bool
  | .ite _ _ _ => false
  | .one a => noIte a
  | _ => true
def isBo : Ex → Bool
  | .and _ _ => true
  | .or _ _ => true
  | .one _ => true
  | _ => false
def sub (xs ys : List Nat) : Bool := xs.all fun i => ys.contains i
mutual
def chk (G : Gx) (N : List Str) : (Str → Bool) → Scope → Ex → Expr → Bool
  | _, sc, .var i, .Name x _ => decide (N[i]? = some x) && isVis sc x && nameOk x
  | _, _, .int i, .Constant (.int j) _ _ => decide (i = j)
  | _, _, .str x, .Constant (.str y) _ _ => decide (x = y)
  | _, _, .bl b, .Constant (.bool d) _ _ => b == d
  | _, _, .non, .Constant .none _ _ => true
  | _, sc, .glb k, .Name x _ => isGl sc x && nameOk x && (match G.cons[k]? with
      | some p => decide (p.1 = x)
      | none => false)
  | fn, sc, .bin o a b, .BinOp x op y _ => decide (o.op = op) && chk G N fn sc a x && chk G N fn sc b y
  | fn, sc, .cmp o a b, .Compare x [op] [y] _ => decide (o.op = op) && !behindInMarks op y && chk G N fn sc a x && chk G N fn sc b y
  | fn, sc, .chain o o' a b d, .Compare x [op, op'] [y, z] _ => decide (o.op = op) && decide (o'.op = op') && !lastMarks [op, op'] [y, z] && chk G N fn sc a x && chk G N fn sc b y && chk G N fn sc d z
  | fn, sc, .neg a, .UnaryOp .USub x _ => chk G N fn sc a x
  | fn, sc, .not a, .UnaryOp .Not x _ => noIte a && chk G N fn sc a x
  | fn, sc, .and a b, .BoolOp .And (x :: y :: r) p => noIte a && isBo b && noIte b && chk G N fn sc a x && chk G N fn sc b (.BoolOp .And (y :: r) p)
  | fn, sc, .or a b, .BoolOp .Or (x :: y :: r) p => noIte a && isBo b && noIte b && chk G N fn sc a x && chk G N fn sc b (.BoolOp .Or (y :: r) p)
  | fn, sc, .one a, .BoolOp _ [x] _ => noIte a && chk G N fn sc a x
  | fn, sc, .ite t a b, .IfExp x y z _ => noIte t && chk G N fn sc t x && chk G N fn sc a y && chk G N fn sc b z
  | fn, sc, .tup es, .Tuple xs _ _ => chks G N fn sc es xs
  | fn, sc, .lst es, .List xs _ => chks G N fn sc es xs
  | _, _, .dic _, .Dict [] [] _ => true
  | fn, sc, .idx a b, .Subscript x y _ => chk G N fn sc a x && chk G N fn sc b y
  | fn, sc, .dget a b, .Subscript x y _ => chk G N fn sc a x && chk G N fn sc b y
  | fn, sc, .slc a lo hi, .Subscript x (.Slice l h none _) _ => chk G N fn sc a x && chko G N fn sc lo l && chko G N fn sc hi h
  | fn, sc, .get1 o k, .Call (.Attribute x m ap) [y] [] cp => decide (m = "get") && okBase x && (ap.endLine == cp.line) && chk G N fn sc o x && chk G N fn sc k y
  | fn, sc, .get2 o k z, .Call (.Attribute x m ap) [y, w] [] cp => decide (m = "get") && okBase x && (ap.endLine == cp.line) && chk G N fn sc o x && chk G N fn sc k y && chk G N fn sc z w
  | fn, sc, .call f e es, .Call (.Name x _) (y :: ys) [] _ => isGl sc x && nameOk x && decide (G.fns[f]? = some (x, es.len + 1)) && chk G N fn sc e y && chks G N fn sc es ys
  | fn, sc, .bi b e es, .Call (.Name x _) (y :: ys) [] _ => isGl sc x && decide (b.name = x) && G.blt.contains x && chk G N fn sc e y && chks G N fn sc es ys
  | fn, sc, .isa t e, .Call (.Name x _) [y, .Name z _] [] _ => isGl sc x && decide (x = "isinstance") && G.blt.contains x && isGl sc z && decide (z = t.s) && G.blt.contains z && chk G N fn sc e y
  | fn, sc, .comp elt t it cnd vs, .ListComp x [⟨tg, iter, ifs, z⟩] scope _ => decide (z = 0) && decide ((ownOf N vs).map (·.2) = vs) && blkC N sc scope (ownOf N vs) && sub t.slots vs &&
      chki G N fn sc it iter && chkT (blkFn scope) N (relS scope sc) t tg && chkc G N (blkFn scope) (relS scope sc) cnd ifs && chk G N (blkFn scope) (relS scope sc) elt x
  | fn, sc, .comp2 elt t it cnd t1 it1 cnd1 vs vs1, .ListComp x [⟨tg, iter, ifs, z⟩, ⟨tg1, iter1, ifs1, z1⟩] scope _ => decide (z = 0) && decide (z1 = 0) && decide ((ownOf N vs).map (·.2) = vs) && blkC N sc scope (ownOf N vs) && sub t.slots vs && sub vs1 vs && sub t1.slots vs1 &&
      chki G N fn sc it iter && chkT (blkFn scope) N (relS scope sc) t tg && chkc G N (blkFn scope) (relS scope sc) cnd ifs && chki G N (blkFn scope) (relS scope sc) it1 iter1 && chkT (blkFn scope) N (relS scope sc) t1 tg1 &&
      chkc G N (blkFn scope) (relS scope sc) cnd1 ifs1 && chk G N (blkFn scope) (relS scope sc) elt x
  | fn, sc, .dcomp _ k v t it cnd vs, .DictComp x y [⟨tg, iter, ifs, z⟩] scope _ => decide (z = 0) && decide ((ownOf N vs).map (·.2) = vs) && blkC N sc scope (ownOf N vs) && sub t.slots vs &&
      chki G N fn sc it iter && chkT (blkFn scope) N (relS scope sc) t tg && chkc G N (blkFn scope) (relS scope sc) cnd ifs && chk G N (blkFn scope) (relS scope sc) k x && chk G N (blkFn scope) (relS scope sc) v y
  | _, _, _, _ => false
def chks (G : Gx) (N : List Str) : (Str → Bool) → Scope → Exs → List Expr → Bool
  | _, _, .nil, [] => true
  | fn, sc, .cons e es, x :: xs => chk G N fn sc e x && chks G N fn sc es xs
  | _, _, _, _ => false
def chko (G : Gx) (N : List Str) : (Str → Bool) → Scope → Oe → Option Expr → Bool
  | _, _, .no, none => true
  | fn, sc, .yes e, some x => chk G N fn sc e x
  | _, _, _, _ => false
def chkc (G : Gx) (N : List Str) : (Str → Bool) → Scope → Oe → List Expr → Bool
  | _, _, .no, [] => true
  | fn, sc, .yes e, [x] => noIte e && chk G N fn sc e x
  | _, _, _, _ => false
def chki (G : Gx) (N : List Str) : (Str → Bool) → Scope → Ir → Expr → Bool
  | fn, sc, .seq e, x => chk G N fn sc e x
  | fn, sc, .rng1 e, .Call (.Name n _) [x] [] _ => decide (n = "range") && isGl sc n && G.blt.contains n && chk G N fn sc e x
  | fn, sc, .rng2 a b, .Call (.Name n _) [x, y] [] _ => decide (n = "range") && isGl sc n && G.blt.contains n && chk G N fn sc a x && chk G N fn sc b y
  | _, _, _, _ => false
end
end Dl

set_option Elab.async false
set_option linter.all false
set_option maxRecDepth 100000
set_option maxHeartbeats 8000000
/-! Dl12: the terms are sound. -/
namespace Dl
open PySem PySem.Spec PyProof.Rows L2

def FnG (c : Cc) (Φ : Fs) (X : Cx) (i : Nat) (x : Str) (n : Nat) : Prop := ∃ (k : Nat) (f : Addr) (fd : FuncData) (ps : List Str),
  FnOk X.prog X.w X.K X.mg X.base CX0 k f fd ps (spD c n (Φ i)) ∧ Room k X.A ∧ X.mg x = some (.ref f) ∧ PySem.W.keepIn X.K (.ref f) = true ∧ L2.Binds X.K fd ps []
structure Good (G : Gx) (c : Cc) (Φ : Fs) (X : Cx) (N : List Str) (fn : Str → Bool) (sc : Scope) : Prop where
  k : X.K = c.K
  n : X.N = N
  nd : N.Nodup
  sc : X.env.scope = sc
  fn : ∀ x, fn x = true → X.fn x = true
  calm : X.calm = true
  hu : X.A.units + 100 < cLine
  cons : ∀ p ∈ G.cons, ∃ t, X.mg p.1 = some (.str p.2 t)
  blt : ∀ x ∈ G.blt, X.mg x = none
  fns : ∀ i x n, G.fns[i]? = some (x, n) → FnG c Φ X i x n
section
variable {G : Gx} {c : Cc} {Φ : Fs} {X : Cx} {N : List Str} {fn : Str → Bool} {sc : Scope}
theorem Good.blk (g : Good G c Φ X N fn sc) (scope : Scope) (s : Shared) (H : Hp) (C : Addr) (cl : List (Str × Addr)) (fp : List Addr) : Good G c Φ (X.blk s H scope (compEnvC scope cl C X.env) fp) N (blkFn scope) (relS scope sc) where
  k := g.k
  n := g.n
  nd := g.nd
  sc := by
    show relS scope X.env.scope = _
    rw [g.sc]
  fn := fun x h => h
  calm := g.calm
  hu := g.hu
  cons := g.cons
  blt := g.blt
  fns := g.fns
theorem vis_of {x : Str} (h : isVis sc x = true) : Vis sc x := by
  unfold isVis at h
  split at h <;> first | exact .inl (by assumption) | exact .inr (.inl (by assumption)) | exact .inr (.inr (by assumption)) | cases h
theorem Good.vis (g : Good G c Φ X N fn sc) {x : Str} (h : isVis sc x = true) : Vis X.env.scope x := by
  rw [g.sc]
  exact vis_of h
theorem Good.gl (g : Good G c Φ X N fn sc) {x : Str} (h : isGl sc x = true) : Gl X x := by
  show X.env.scope.names.lookup x = _
  rw [g.sc]
  unfold isGl at h
  split at h
  · assumption
  · cases h
theorem Good.tgt (g : Good G c Φ X N fn sc) {x : Str} (h : isTgt fn sc x = true) : Loc X.env.scope x ∧ (X.fn x = true ∨ X.env.scope.names.lookup x = some .local) := by
  rw [g.sc]
  unfold isTgt at h
  split at h
  · exact ⟨.inl (by assumption), .inr (by assumption)⟩
  · exact ⟨.inr (by assumption), .inl (g.fn x h)⟩
  · cases h
theorem Good.at_ (g : Good G c Φ X N fn sc) {i : Nat} {x : Str} (h : N[i]? = some x) : X.N[i]? = some x := by
  rw [g.n]
  exact h
theorem nameOk_of {x : Str} (h : nameOk x = true) : (x == ("__debug__" : Str)) = false ∧ (x == ("__classdict__" : Str)) = false := by
  unfold nameOk at h
  simp only [Bool.and_eq_true, Bool.not_eq_true'] at h
  exact h
theorem sub_of {xs ys : List Nat} (h : sub xs ys = true) : ∀ i ∈ xs, i ∈ ys := by
  unfold sub at h
  simp only [List.all_eq_true, List.contains_eq_mem, decide_eq_true_eq] at h
  exact h

/-- what a term of an expression says -/
structure SndE (G : Gx) (c : Cc) (Φ : Fs) (X : Cx) (e : Ex) (x : Expr) : Prop where
  pe : PE X x (tE c (esc e) (fre e) (ev G Φ e))
  pt : noIte e = true → PT X x (tTs c fun Γ => (ev G Φ e Γ).bind dTru)
  pw : isBo e = true → noIte e = true → PW X x (tTs c fun Γ => (ev G Φ e Γ).bind dTru)
  hd : okHead x = true
theorem SndE.mk' {e : Ex} {x : Expr} (hK : X.K = c.K) (pe : PE X x (tE c (esc e) (fre e) (ev G Φ e))) (h : okHead x = true) (t : okTest x = true) (nb : isBo e = false) : SndE G c Φ X e x :=
  ⟨pe, fun _ => dt_gen hK pe (head_truth h t _), fun z => (by rw [nb] at z; cases z), h⟩
/-- a comparison's value as a test -/
theorem cmp_tru {o : COp} {va vb : Gm → Option D} (Γ : Gm) : (((va Γ).bind fun x => (vb Γ).bind fun y => o.fo x y).bind asB) = (((va Γ).bind fun x => (vb Γ).bind fun y => o.fo x y).bind dTru) := by
  cases e1 : va Γ with
  | none => rfl
  | some x =>
    cases e2 : vb Γ with
    | none => rfl
    | some y =>
      show (o.fo x y).bind asB = (o.fo x y).bind dTru
      cases e3 : o.fo x y with
      | none => rfl
      | some d =>
        obtain ⟨k, rfl⟩ := o.isB e3
        rfl
theorem pt_eq {x : Expr} {f f' : Gm → Option Bool} (h : PT X x (tTs c f)) (e : ∀ Γ, f Γ = f' Γ) : PT X x (tTs c f') := by
  have : f = f' := funext e
  subst this
  exact h
theorem pw_eq {x : Expr} {f f' : Gm → Option Bool} (h : PW X x (tTs c f)) (e : ∀ Γ, f Γ = f' Γ) : PW X x (tTs c f') := by
  have : f = f' := funext e
  subst this
  exact h
theorem chain_tru {o o' : COp} {va vb vc : Gm → Option D} (Γ : Gm) : (vChain o.fo o'.fo va vb vc Γ).bind asB = (vChain o.fo o'.fo va vb vc Γ).bind dTru := by
  have hb : ∀ d, vChain o.fo o'.fo va vb vc Γ = some d → ∃ k, d = .bool k := fun d h => by
    unfold vChain at h
    obtain ⟨x, _, h⟩ := bind_ok h
    obtain ⟨y, _, h⟩ := bind_ok h
    obtain ⟨k, _, h⟩ := bind_ok h
    split at h
    · obtain ⟨z, _, h⟩ := bind_ok h
      obtain ⟨k', _, h⟩ := map_ok h
      exact ⟨k', h.symm⟩
    · cases h
      exact ⟨_, rfl⟩
  cases e : vChain o.fo o'.fo va vb vc Γ with
  | none => rfl
  | some d =>
    obtain ⟨k, rfl⟩ := hb d e
    rfl
/-- an expression whose value is a truth value, as a test -/
theorem pt_bool {x : Expr} {S : List Nat} {fr : Bool} {f : Gm → Option D} (h : PE X x (tE c S fr f)) (hb : ∀ Γ d, f Γ = some d → ∃ k, d = .bool k) (hp : ∀ t, PE X x t → PT X x (tB t)) : PT X x (tTs c fun Γ => (f Γ).bind dTru) := by
  refine pt_imp (hp _ h) fun σ H Q ⟨F, H0, A, Γ, b, S, hf, q⟩ => ?_
  obtain ⟨d, e1, e2⟩ := bind_ok hf
  obtain ⟨k, rfl⟩ := hb Γ d e1
  cases e2
  refine ⟨F, H0, A, Γ, _, S, e1, fun v H' x1 r => ?_⟩
  obtain ⟨r, _⟩ := r
  cases r
  exact ⟨_, rfl, q H' x1⟩
theorem dnot_tru (o : Option D) : (o.bind dNot).bind dTru = (o.bind dTru).map fun b => !b := by
  cases o with
  | none => rfl
  | some d =>
    show (dNot d).bind dTru = (dTru d).map fun b => !b
    unfold dNot
    cases dTru d with
    | none => rfl
    | some b => rfl
theorem vand_tru {va vb : Gm → Option D} (Γ : Gm) : (((va Γ).bind dTru).bind fun k => if k = true then (vb Γ).bind dTru else some false) = (vAnd va vb Γ).bind dTru := by
  unfold vAnd
  cases va Γ with
  | none => rfl
  | some x =>
    show ((dTru x).bind fun k => if k = true then (vb Γ).bind dTru else some false) = ((dTru x).bind fun k => if k = true then vb Γ else some x).bind dTru
    cases e : dTru x with
    | none => rfl
    | some k =>
      cases k with
      | true => rfl
      | false => exact e.symm
theorem vor_tru {va vb : Gm → Option D} (Γ : Gm) : (((va Γ).bind dTru).bind fun k => if k = true then some true else (vb Γ).bind dTru) = (vOr va vb Γ).bind dTru := by
  unfold vOr
  cases va Γ with
  | none => rfl
  | some x =>
    show ((dTru x).bind fun k => if k = true then some true else (vb Γ).bind dTru) = ((dTru x).bind fun k => if k = true then some x else vb Γ).bind dTru
    cases e : dTru x with
    | none => rfl
    | some k =>
      cases k with
      | true => exact e.symm
      | false => rfl
theorem decEq_of {α : Type} [DecidableEq α] {a b : α} (h : decide (a = b) = true) : a = b := of_decide_eq_true h

/-! ### targets -/
theorem snd_ts (g : Good G c Φ X N fn sc) : ∀ {is : List Nat} {es : List Expr}, chkTs fn N sc is es = true → PGs X es (gSlots is) ∧ (assignEach es X.env).length = is.length ∧ (assignEach es X.env).findIdx? (·.1) = none
  | [], [], _ => ⟨pgs_nil, rfl, rfl⟩
  | [], _ :: _, h => by simp [chkTs] at h
  | _ :: _, [], h => by simp [chkTs] at h
  | i :: is, e :: es, h => by
    cases e with
    | Name x p =>
      simp only [chkTs, Bool.and_eq_true, decide_eq_true_eq] at h
      obtain ⟨h1, h2, h3⟩ := snd_ts g h.2
      obtain ⟨t1, t2⟩ := g.tgt h.1.2
      have ae : assignEach (.Name x p :: es) X.env = (false, assign (.Name x p) X.env) :: assignEach es X.env := rfl
      refine ⟨pgs_cons (pg_name (g.n ▸ g.nd) (g.at_ h.1.1) t1 t2) h1, by rw [ae]; simp [h2], ?_⟩
      rw [ae, List.findIdx?_cons, h3]
      rfl
    | _ => simp [chkTs] at h
theorem snd_tg (g : Good G c Φ X N fn sc) {t : Tg} {e : Expr} (h : chkT fn N sc t e = true) : PG X e (tGt c t) := by
  cases t with
  | nm i =>
    cases e with
    | Name x p =>
      simp only [chkT, Bool.and_eq_true, decide_eq_true_eq] at h
      obtain ⟨t1, t2⟩ := g.tgt h.2
      exact dg_nm (g.n ▸ g.nd) (g.at_ h.1) t1 t2
    | _ => simp [chkT] at h
  | tp is =>
    cases e with
    | Tuple es k p =>
      simp only [chkT] at h
      obtain ⟨h1, h2, h3⟩ := snd_ts g h
      exact dg_tp g.k g.calm h1 h2 h3
    | _ => simp [chkT] at h

theorem argsL : ∀ (es : Exs) {Γ : Gm} {ds : List D}, evs G Φ es Γ = some ds → ds.length = es.len
  | .nil, Γ, ds, h => by
    simp only [evs] at h
    cases h
    rfl
  | .cons e es, Γ, ds, h => by
    simp only [evs] at h
    obtain ⟨x, _, h⟩ := bind_ok h
    obtain ⟨xs, h2, h⟩ := bind_ok h
    cases h
    rw [List.length_cons, argsL es h2]
    rfl
theorem own_mem {vs : List Nat} (h : decide ((ownOf N vs).map (·.2) = vs) = true) : (ownOf N vs).map (·.2) = vs := of_decide_eq_true h
theorem mem_of_contains {l : List Str} {x : Str} (h : l.contains x = true) : x ∈ l := by
  simpa using h
mutual
theorem snd_e : ∀ (e : Ex) (x : Expr) {X : Cx} {fn : Str → Bool} {sc : Scope} (g : Good G c Φ X N fn sc), chk G N fn sc e x = true → SndE G c Φ X e x
  | .var i, x, X, fn, sc, g, h => by
    cases x with
    | Name n p =>
      simp only [chk, Bool.and_eq_true, decide_eq_true_eq] at h
      exact .mk' g.k (de_var (g.at_ h.1.1) (g.vis h.1.2) (nameOk_of h.2).1 (nameOk_of h.2).2) rfl rfl rfl
    | _ => simp [chk] at h
  | .int i, x, X, fn, sc, g, h => by
    cases x with
    | Constant k j p =>
      cases k with
      | int z =>
        simp only [chk, decide_eq_true_eq] at h
        subst h
        exact .mk' g.k (de_const pe_int (fun _ _ => .int _) rfl) rfl rfl rfl
      | _ => simp [chk] at h
    | _ => simp [chk] at h
  | .str i, x, X, fn, sc, g, h => by
    cases x with
    | Constant k j p =>
      cases k with
      | str z =>
        simp only [chk, decide_eq_true_eq] at h
        subst h
        exact .mk' g.k (de_const pe_str (fun _ _ => .str _) rfl) rfl rfl rfl
      | _ => simp [chk] at h
    | _ => simp [chk] at h
  | .bl i, x, X, fn, sc, g, h => by
    cases x with
    | Constant k j p =>
      cases k with
      | bool z =>
        simp only [chk, beq_iff_eq] at h
        subst h
        exact .mk' g.k (de_const pe_bl (fun _ _ => .bl _) rfl) rfl rfl rfl
      | _ => simp [chk] at h
    | _ => simp [chk] at h
  | .non, x, X, fn, sc, g, h => by
    cases x with
    | Constant k j p =>
      cases k with
      | none => exact .mk' g.k (de_const pe_non (fun _ _ => .non) rfl) rfl rfl rfl
      | _ => simp [chk] at h
    | _ => simp [chk] at h
  | .glb k, x, X, fn, sc, g, h => by
    cases x with
    | Name n p =>
      simp only [chk, Bool.and_eq_true] at h
      obtain ⟨⟨h1, h2⟩, h3⟩ := h
      cases e : G.cons[k]? with
      | none => rw [e] at h3; cases h3
      | some q =>
        rw [e] at h3
        simp only [decide_eq_true_eq] at h3
        obtain ⟨t, ht⟩ := g.cons q (List.mem_of_getElem? e)
        rw [h3] at ht
        have pe : PE X (.Name n p) (tE c [] true fun _ => some (.str q.2)) := de_const (pe_glob (v := V.str q.2) (g.gl h1) ht ⟨t, rfl⟩ (nameOk_of h2).1) (fun _ _ => .str _) rfl
        have ee : ev G Φ (.glb k) = fun _ => some (.str q.2) := by
          funext Γ
          simp only [ev, e]
          rfl
        refine .mk' g.k ?_ rfl rfl rfl
        rw [ee]
        exact pe
    | _ => simp [chk] at h
  | .bin o a b, x, X, fn, sc, g, h => by
    cases x with
    | BinOp y op z p =>
      simp only [chk, Bool.and_eq_true, decide_eq_true_eq] at h
      obtain ⟨⟨rfl, h1⟩, h2⟩ := h
      exact .mk' g.k (de_op (o.ok g.k) (snd_e a y g h1).pe (snd_e b z g h2).pe) rfl rfl rfl
    | _ => simp [chk] at h
  | .cmp o a b, x, X, fn, sc, g, h => by
    cases x with
    | Compare y ops zs p =>
      match ops, zs, h with
      | [op], [z], h =>
        simp only [chk, Bool.and_eq_true, decide_eq_true_eq, Bool.not_eq_true'] at h
        obtain ⟨⟨⟨rfl, h0⟩, h1⟩, h2⟩ := h
        have A := (snd_e a y g h1).pe
        have B := (snd_e b z g h2).pe
        exact ⟨de_cmp (o.ok g.k g.hu) h0 A B, fun _ => pt_eq (dt_cmp (o.ok g.k g.hu) h0 A B) fun Γ => cmp_tru (o := o) (va := ev G Φ a) (vb := ev G Φ b) Γ, fun z => (by cases z), rfl⟩
      | [], _, h => simp [chk] at h
      | _ :: _ :: _, _, h => simp [chk] at h
      | [_], [], h => simp [chk] at h
      | [_], _ :: _ :: _, h => simp [chk] at h
    | _ => simp [chk] at h
  | .chain o o' a b d, x, X, fn, sc, g, h => by
    cases x with
    | Compare y ops zs p =>
      match ops, zs, h with
      | [op, op'], [z, w], h =>
        simp only [chk, Bool.and_eq_true, decide_eq_true_eq, Bool.not_eq_true'] at h
        obtain ⟨⟨⟨⟨⟨rfl, rfl⟩, h0⟩, h1⟩, h2⟩, h3⟩ := h
        have A := (snd_e a y g h1).pe
        have B := (snd_e b z g h2).pe
        have C := (snd_e d w g h3).pe
        exact ⟨de_chain (o.ok g.k g.hu) (o'.ok g.k g.hu) h0 A B C, fun _ => pt_eq (dt_chain (o.ok g.k g.hu) (o'.ok g.k g.hu) h0 A B C) fun Γ => chain_tru Γ, fun z => (by cases z), rfl⟩
      | [], _, h => simp [chk] at h
      | [_], _, h => simp [chk] at h
      | _ :: _ :: _ :: _, _, h => simp [chk] at h
      | [_, _], [], h => simp [chk] at h
      | [_, _], [_], h => simp [chk] at h
      | [_, _], _ :: _ :: _ :: _, h => simp [chk] at h
    | _ => simp [chk] at h
  | .neg a, x, X, fn, sc, g, h => by
    cases x with
    | UnaryOp op y p =>
      cases op with
      | USub =>
        simp only [chk] at h
        exact .mk' g.k (de_un od_neg (snd_e a y g h).pe) rfl rfl rfl
      | _ => simp [chk] at h
    | _ => simp [chk] at h
  | .not a, x, X, fn, sc, g, h => by
    cases x with
    | UnaryOp op y p =>
      cases op with
      | Not =>
        simp only [chk, Bool.and_eq_true] at h
        have A := snd_e a y g h.2
        exact ⟨de_not g.k A.pe, fun _ => pt_eq (dt_not (A.pt h.1)) fun Γ => (dnot_tru _).symm, fun z => (by cases z), rfl⟩
      | _ => simp [chk] at h
    | _ => simp [chk] at h
  | .and a b, x, X, fn, sc, g, h => by
    cases x with
    | BoolOp op xs p =>
      cases op with
      | And =>
        match xs, h with
        | y :: z :: r, h =>
          simp only [chk, Bool.and_eq_true] at h
          obtain ⟨⟨⟨⟨h1, h2⟩, h3⟩, h4⟩, h5⟩ := h
          have A := snd_e a y g h4
          have B := snd_e b _ g h5
          have W := pw_eq (dt_and (A.pt h1) (B.pw h2 h3)) fun Γ => vand_tru (va := ev G Φ a) (vb := ev G Φ b) Γ
          exact ⟨de_and g.k A.pe B.pe, fun _ => W.pt, fun _ _ => W, rfl⟩
        | [], h => simp [chk] at h
        | [_], h => simp [chk] at h
      | Or => simp [chk] at h
    | _ => simp [chk] at h
  | .or a b, x, X, fn, sc, g, h => by
    cases x with
    | BoolOp op xs p =>
      cases op with
      | Or =>
        match xs, h with
        | y :: z :: r, h =>
          simp only [chk, Bool.and_eq_true] at h
          obtain ⟨⟨⟨⟨h1, h2⟩, h3⟩, h4⟩, h5⟩ := h
          have A := snd_e a y g h4
          have B := snd_e b _ g h5
          have W := pw_eq (dt_or (A.pt h1) (B.pw h2 h3)) fun Γ => vor_tru (va := ev G Φ a) (vb := ev G Φ b) Γ
          exact ⟨de_or g.k A.pe B.pe, fun _ => W.pt, fun _ _ => W, rfl⟩
        | [], h => simp [chk] at h
        | [_], h => simp [chk] at h
      | And => simp [chk] at h
    | _ => simp [chk] at h
  | .one a, x, X, fn, sc, g, h => by
    cases x with
    | BoolOp op xs p =>
      match xs, h with
      | [y], h =>
        simp only [chk, Bool.and_eq_true] at h
        have A := snd_e a y g h.2
        have PA := A.pt h.1
        have W : PW X (.BoolOp op [y] p) (tTs c fun Γ => (ev G Φ a Γ).bind dTru) := by
          cases op with
          | And => exact pw_and1 PA
          | Or => exact pw_or1 PA
        exact ⟨pe_one A.pe, fun _ => W.pt, fun _ _ => W, rfl⟩
      | [], h => simp [chk] at h
      | _ :: _ :: _, h => simp [chk] at h
    | _ => simp [chk] at h
  | .ite t a b, x, X, fn, sc, g, h => by
    cases x with
    | IfExp y z w p =>
      simp only [chk, Bool.and_eq_true] at h
      obtain ⟨⟨⟨h0, h1⟩, h2⟩, h3⟩ := h
      exact ⟨de_if ((snd_e t y g h1).pt h0) (snd_e a z g h2).pe (snd_e b w g h3).pe, fun z => (by cases z), fun z => (by cases z), rfl⟩
    | _ => simp [chk] at h
  | .tup es, x, X, fn, sc, g, h => by
    cases x with
    | Tuple xs k p =>
      simp only [chk] at h
      exact .mk' g.k (de_tup (snd_es es xs g h).1) rfl rfl rfl
    | _ => simp [chk] at h
  | .lst es, x, X, fn, sc, g, h => by
    cases x with
    | List xs p =>
      simp only [chk] at h
      exact .mk' g.k (de_lst (snd_es es xs g h).1) rfl rfl rfl
    | _ => simp [chk] at h
  | .dic kd, x, X, fn, sc, g, h => by
    cases x with
    | Dict ks vs p =>
      match ks, vs, h with
      | [], [], h =>
        cases kd with
        | true => exact .mk' g.k de_dicT rfl rfl rfl
        | false => exact .mk' g.k de_dicK rfl rfl rfl
      | [], _ :: _, h => simp [chk] at h
      | _ :: _, _, h => simp [chk] at h
    | _ => simp [chk] at h
  | .idx a b, x, X, fn, sc, g, h => by
    cases x with
    | Subscript y z p =>
      simp only [chk, Bool.and_eq_true] at h
      have B := snd_e b z g h.2
      exact .mk' g.k (de_idx (od_idx g.k) (head_ix B.hd) (snd_e a y g h.1).pe B.pe) rfl rfl rfl
    | _ => simp [chk] at h
  | .dget a b, x, X, fn, sc, g, h => by
    cases x with
    | Subscript y z p =>
      simp only [chk, Bool.and_eq_true] at h
      have B := snd_e b z g h.2
      exact .mk' g.k (de_dget (by have := g.hu; omega) (head_ix B.hd) (snd_e a y g h.1).pe B.pe) rfl rfl rfl
    | _ => simp [chk] at h
  | .slc a lo hi, x, X, fn, sc, g, h => by
    cases x with
    | Subscript y z p =>
      cases z with
      | Slice l u st p2 =>
        cases st with
        | none =>
          simp only [chk, Bool.and_eq_true] at h
          exact .mk' g.k (de_slc (od_slc g.k) (snd_e a y g h.1.1).pe (snd_o lo l g h.1.2) (snd_o hi u g h.2)) rfl rfl rfl
        | some _ => simp [chk] at h
      | _ => simp [chk] at h
    | _ => simp [chk] at h
  | .get1 o k, x, X, fn, sc, g, h => by
    cases x with
    | Call f args kws cp =>
      cases f with
      | Attribute y m ap =>
        match args, kws, h with
        | [z], [], h =>
          simp only [chk, Bool.and_eq_true, decide_eq_true_eq] at h
          obtain ⟨⟨⟨⟨rfl, h1⟩, h2⟩, h3⟩, h4⟩ := h
          have B := snd_e k z g h4
          have m1 : M1 X y "get" ap z cp := ⟨head_base h1 _ _ _, by rw [head_star B.hd]; rfl, h2, by rw [head_star B.hd]; rfl⟩
          exact .mk' g.k (de_get1 (by have := g.hu; omega) m1 (snd_e o y g h3).pe B.pe) rfl rfl rfl
        | [], _, h => simp [chk] at h
        | _ :: _ :: _, _, h => simp [chk] at h
        | [_], _ :: _, h => simp [chk] at h
      | _ => simp [chk] at h
    | _ => simp [chk] at h
  | .get2 o k w, x, X, fn, sc, g, h => by
    cases x with
    | Call f args kws cp =>
      cases f with
      | Attribute y m ap =>
        match args, kws, h with
        | [z, u], [], h =>
          simp only [chk, Bool.and_eq_true, decide_eq_true_eq] at h
          obtain ⟨⟨⟨⟨⟨rfl, h1⟩, h2⟩, h3⟩, h4⟩, h5⟩ := h
          have B := snd_e k z g h4
          have C := snd_e w u g h5
          have m1 : M2 X y "get" ap z u cp := ⟨head_base h1 _ _ _, by rw [head_star B.hd, head_star C.hd]; rfl, h2, by rw [head_star B.hd, head_star C.hd]; rfl⟩
          exact .mk' g.k (de_get2 (by have := g.hu; omega) m1 (snd_e o y g h3).pe B.pe C.pe) rfl rfl rfl
        | [], _, h => simp [chk] at h
        | [_], _, h => simp [chk] at h
        | _ :: _ :: _ :: _, _, h => simp [chk] at h
        | [_, _], _ :: _, h => simp [chk] at h
      | _ => simp [chk] at h
    | _ => simp [chk] at h
  | .call f e es, x, X, fn, sc, g, h => by
    cases x with
    | Call f' args kws cp =>
      cases f' with
      | Name n p =>
        match args, kws, h with
        | y :: ys, [], h =>
          simp only [chk, Bool.and_eq_true, decide_eq_true_eq] at h
          obtain ⟨⟨⟨⟨h1, h2⟩, h3⟩, h4⟩, h5⟩ := h
          have A := snd_e e y g h4
          have B := snd_es es ys g h5
          obtain ⟨k, fa, fd, ps, F, hr, hm, hk, hb⟩ := g.fns f n _ h3
          exact .mk' g.k (de_call F hr (g.gl h1) hm hk hb (da_cons A.pe B.1 (head_star A.hd _ _)) (nameOk_of h2).1 (head_star A.hd _ _) B.2 fun Γ ds hd => by
            obtain ⟨x, _, hd⟩ := bind_ok hd
            obtain ⟨xs, h6, hd⟩ := bind_ok hd
            cases hd
            rw [List.length_cons, argsL es h6]) rfl rfl rfl
        | [], _, h => simp [chk] at h
        | _ :: _, _ :: _, h => simp [chk] at h
      | _ => simp [chk] at h
    | _ => simp [chk] at h
  | .bi b e es, x, X, fn, sc, g, h => by
    cases x with
    | Call f' args kws cp =>
      cases f' with
      | Name n p =>
        match args, kws, h with
        | y :: ys, [], h =>
          simp only [chk, Bool.and_eq_true, decide_eq_true_eq] at h
          obtain ⟨⟨⟨⟨h1, h2⟩, h3⟩, h4⟩, h5⟩ := h
          subst h2
          have A := snd_e e y g h4
          have B := snd_es es ys g h5
          have hm := g.blt _ (mem_of_contains h3)
          have ok := b.ok g.k g.calm g.hu
          have bt := b.boot
          have PAA := da_cons A.pe B.1 (head_star A.hd ys X.env)
          rcases b.kind with ⟨id, e1⟩ | ⟨T, e1⟩
          · rw [e1] at ok bt
            exact .mk' g.k (de_callB ok (g.gl h1) hm bt PAA b.ne.1 b.ne.2 (head_star A.hd _ _) B.2) rfl rfl rfl
          · rw [e1] at ok bt
            exact .mk' g.k (de_callT ok (g.gl h1) hm bt PAA b.ne.1 b.ne.2 (head_star A.hd _ _) B.2) rfl rfl rfl
        | [], _, h => simp [chk] at h
        | _ :: _, _ :: _, h => simp [chk] at h
      | _ => simp [chk] at h
    | _ => simp [chk] at h
  | .isa t e, x, X, fn, sc, g, h => by
    cases x with
    | Call f' args kws cp =>
      cases f' with
      | Name n p =>
        match args, kws, h with
        | [y, z], [], h =>
          cases z with
          | Name z p' =>
            simp only [chk, Bool.and_eq_true, decide_eq_true_eq] at h
            obtain ⟨⟨⟨⟨⟨⟨h1, rfl⟩, h3⟩, h4⟩, rfl⟩, h6⟩, h7⟩ := h
            have A := snd_e e y g h7
            exact .mk' g.k (de_isa g.k (g.gl h1) (g.blt _ (mem_of_contains h3)) (by decide +kernel) (g.gl h4) (g.blt _ (mem_of_contains h6)) t.boot A.pe (by decide) (by decide) t.ne.1 t.ne.2 fun es => head_star A.hd _ _) rfl rfl rfl
          | _ => simp [chk] at h
        | [], _, h => simp [chk] at h
        | [_], _, h => simp [chk] at h
        | _ :: _ :: _ :: _, _, h => simp [chk] at h
        | [_, w], _ :: _, h => cases w <;> simp [chk] at h
      | _ => simp [chk] at h
    | _ => simp [chk] at h
  | .comp elt t it cnd vs, x, X, fn, sc, g, h => by
    cases x with
    | ListComp y gens scope p =>
      match gens, h with
      | [⟨tg, iter, ifs, z⟩], h =>
        simp only [chk, Bool.and_eq_true, decide_eq_true_eq] at h
        obtain ⟨⟨⟨⟨⟨⟨⟨rfl, h1⟩, h2⟩, h3⟩, h4⟩, h5⟩, h6⟩, h7⟩ := h
        have I := snd_i it iter tg g h4
        have P := pe_lc (pos := p) (wi := tIt c (esci it) (evi G Φ it)) (own := ownOf N vs) g.calm (g.n ▸ g.nd) I.1 (by rw [g.n, g.sc]; exact blkOk_by h2) (fun s H C cl fp => snd_tg (g.blk scope s H C cl fp) h5) (fun s H C cl fp => snd_c cnd ifs (g.blk scope s H C cl fp) h6)
          (fun s H C cl fp => (snd_e elt y (g.blk scope s H C cl fp) h7).pe) (I.2 _)
        rw [h1] at P
        exact .mk' g.k (pe_imp P fun σ H Q q => de_lcR (fun _ _ _ z => z) (sub_of h3) q) rfl rfl rfl
      | [], h => simp [chk] at h
      | _ :: _ :: _, h => simp [chk] at h
    | _ => simp [chk] at h
  | .comp2 elt t it cnd t1 it1 cnd1 vs vs1, x, X, fn, sc, g, h => by
    cases x with
    | ListComp y gens scope p =>
      match gens, h with
      | [⟨tg, iter, ifs, z⟩, ⟨tg1, iter1, ifs1, z1⟩], h =>
        simp only [chk, Bool.and_eq_true, decide_eq_true_eq] at h
        obtain ⟨⟨⟨⟨⟨⟨⟨⟨⟨⟨⟨⟨⟨rfl, rfl⟩, h1⟩, h2⟩, h3⟩, h3'⟩, h3''⟩, h4⟩, h5⟩, h6⟩, h8⟩, h9⟩, h10⟩, h7⟩ := h
        have I := snd_i it iter tg g h4
        have P := pe_lc2 (pos := p) (wi := tIt c (esci it) (evi G Φ it)) (wi1 := tIt c (esci it1) (evi G Φ it1)) (own := ownOf N vs) (vs1 := vs1) g.calm (g.n ▸ g.nd) I.1 (by rw [g.n, g.sc]; exact blkOk_by h2) (by rw [h1]; exact sub_of h3') (fun s H C cl fp => snd_tg (g.blk scope s H C cl fp) h5)
          (fun s H C cl fp => snd_c cnd ifs (g.blk scope s H C cl fp) h6) (fun s H C cl fp => (snd_i it1 iter1 tg1 (g.blk scope s H C cl fp) h8).1) (fun s H C cl fp => snd_tg (g.blk scope s H C cl fp) h9) (fun s H C cl fp => snd_c cnd1 ifs1 (g.blk scope s H C cl fp) h10)
          (fun s H C cl fp => (snd_e elt y (g.blk scope s H C cl fp) h7).pe) (I.2 _) (snd_i it1 iter1 tg1 (g.blk scope X.s_0 X.H_0 0 [] []) h8).2
        rw [h1] at P
        exact .mk' g.k (pe_imp P fun σ H Q q => de_lc2R (fun _ _ _ z => z) (fun _ _ _ z => z) (sub_of h3) (sub_of h3'') q) rfl rfl rfl
      | [], h => simp [chk] at h
      | [_], h => simp [chk] at h
      | _ :: _ :: _ :: _, h => simp [chk] at h
    | _ => simp [chk] at h
  | .dcomp kd k v t it cnd vs, x, X, fn, sc, g, h => by
    cases x with
    | DictComp y w gens scope p =>
      match gens, h with
      | [⟨tg, iter, ifs, z⟩], h =>
        simp only [chk, Bool.and_eq_true, decide_eq_true_eq] at h
        obtain ⟨⟨⟨⟨⟨⟨⟨⟨rfl, h1⟩, h2⟩, h3⟩, h4⟩, h5⟩, h6⟩, h7⟩, h8⟩ := h
        have I := snd_i it iter tg g h4
        have P := pe_dcG (kd := kd) (pos := p) (wi := tIt c (esci it) (evi G Φ it)) (own := ownOf N vs) (by have := g.hu; omega) g.calm (g.n ▸ g.nd) I.1 (by rw [g.n, g.sc]; exact blkOk_by h2) (fun s H C cl fp => snd_tg (g.blk scope s H C cl fp) h5) (fun s H C cl fp => snd_c cnd ifs (g.blk scope s H C cl fp) h6)
          (fun s H C cl fp => (snd_e k y (g.blk scope s H C cl fp) h7).pe) (fun s H C cl fp => (snd_e v w (g.blk scope s H C cl fp) h8).pe) (I.2 _)
        rw [h1] at P
        exact .mk' g.k (pe_imp P fun σ H Q q => de_dcR (fun _ _ _ z => z) (sub_of h3) q) rfl rfl rfl
      | [], h => simp [chk] at h
      | _ :: _ :: _, h => simp [chk] at h
    | _ => simp [chk] at h
theorem snd_es : ∀ (es : Exs) (xs : List Expr) {X : Cx} {fn : Str → Bool} {sc : Scope} (g : Good G c Φ X N fn sc), chks G N fn sc es xs = true → PA X xs (tAs c (escs es) (evs G Φ es)) ∧ noStars xs X.env
  | .nil, xs, X, fn, sc, g, h => by
    cases xs with
    | nil => exact ⟨da_nil, noStars_nil⟩
    | cons _ _ => simp [chks] at h
  | .cons e es, xs, X, fn, sc, g, h => by
    cases xs with
    | nil => simp [chks] at h
    | cons x xs =>
      simp only [chks, Bool.and_eq_true] at h
      have A := snd_e e x g h.1
      have B := snd_es es xs g h.2
      exact ⟨da_cons A.pe B.1 (head_star A.hd _ _), noStars_cons (head_star A.hd _ _) B.2⟩
theorem snd_o : ∀ (o : Oe) (x : Option Expr) {X : Cx} {fn : Str → Bool} {sc : Scope} (g : Good G c Φ X N fn sc), chko G N fn sc o x = true → PO X x (tOs c (evo G Φ o))
  | .no, x, X, fn, sc, g, h => by
    cases x with
    | none => exact do_none
    | some _ => simp [chko] at h
  | .yes e, x, X, fn, sc, g, h => by
    cases x with
    | none => simp [chko] at h
    | some y =>
      simp only [chko] at h
      exact do_some (snd_e e y g h).pe
theorem snd_c : ∀ (o : Oe) (x : List Expr) {X : Cx} {fn : Str → Bool} {sc : Scope} (g : Good G c Φ X N fn sc), chkc G N fn sc o x = true → PTs X x (tTs c (evc G Φ o))
  | .no, x, X, fn, sc, g, h => by
    cases x with
    | nil => exact dts_nil
    | cons _ _ => simp [chkc] at h
  | .yes e, x, X, fn, sc, g, h => by
    match x, h with
    | [y], h =>
      simp only [chkc, Bool.and_eq_true] at h
      exact dts_one ((snd_e e y g h.2).pt h.1)
    | [], h => simp [chkc] at h
    | _ :: _ :: _, h => simp [chkc] at h
theorem snd_i : ∀ (i : Ir) (x : Expr) (tg : Expr) {X : Cx} {fn : Str → Bool} {sc : Scope} (g : Good G c Φ X N fn sc), chki G N fn sc i x = true → PI X tg x (tIt c (esci i) (evi G Φ i)) ∧ ∀ env v, foldedSetIterable x env v = pure v
  | .seq e, x, tg, X, fn, sc, g, h => by
    simp only [chki] at h
    have A := snd_e e x g h
    exact ⟨di_seq g.k A.pe (pi_str A.pe), head_fold A.hd⟩
  | .rng1 e, x, tg, X, fn, sc, g, h => by
    cases x with
    | Call f args kws cp =>
      cases f with
      | Name n p =>
        match args, kws, h with
        | [y], [], h =>
          simp only [chki, Bool.and_eq_true, decide_eq_true_eq] at h
          obtain ⟨⟨⟨rfl, h1⟩, h2⟩, h3⟩ := h
          have A := snd_e e y g h3
          exact ⟨di_range1 (g.gl h1) (g.blt _ (mem_of_contains h2)) A.pe (head_star A.hd _ _) (head_star A.hd _ _), fun _ _ => rfl⟩
        | [], _, h => simp [chki] at h
        | _ :: _ :: _, _, h => simp [chki] at h
        | [_], _ :: _, h => simp [chki] at h
      | _ => simp [chki] at h
    | _ => simp [chki] at h
  | .rng2 a b, x, tg, X, fn, sc, g, h => by
    cases x with
    | Call f args kws cp =>
      cases f with
      | Name n p =>
        match args, kws, h with
        | [y, z], [], h =>
          simp only [chki, Bool.and_eq_true, decide_eq_true_eq] at h
          obtain ⟨⟨⟨⟨rfl, h1⟩, h2⟩, h3⟩, h4⟩ := h
          have A := snd_e a y g h3
          have B := snd_e b z g h4
          exact ⟨di_range2 (g.gl h1) (g.blt _ (mem_of_contains h2)) A.pe B.pe (by rw [head_star A.hd, head_star B.hd]; rfl) (head_star B.hd _ _) (head_star A.hd _ _) (head_star B.hd _ _), fun _ _ => rfl⟩
        | [], _, h => simp [chki] at h
        | [_], _, h => simp [chki] at h
        | _ :: _ :: _ :: _, _, h => simp [chki] at h
        | [_, _], _ :: _, h => simp [chki] at h
      | _ => simp [chki] at h
    | _ => simp [chki] at h
end
end
end Dl

set_option Elab.async false
set_option linter.all false
set_option maxRecDepth 100000
set_option maxHeartbeats 8000000
/-! Dl13: statements by data. -/
namespace Dl
open PySem PySem.Spec PyProof.Rows L2

/-- how a block ends -/
inductive Fw where
  | nx (Γ : Gm)
  | rt (d : D)
  | bk (Γ : Gm)
  | ct (Γ : Gm)
def PostOk (c : Cc) (F : Addr → Prop) (H0 : Hp) (E : Ends) : Fw → Prop
  | .nx Γ => ∀ σ H A, StR c F H0 H A σ Γ → E.nx σ H
  | .bk Γ => ∀ σ H A, StR c F H0 H A σ Γ → E.bk σ H
  | .ct Γ => ∀ σ H A, StR c F H0 H A σ Γ → E.ct σ H
  | .rt d => ∀ v H, Ext H0 H → Rep c.K H F v d → E.rt v H
def tSd (c : Cc) (f : Gm → Option Fw) : TS := fun E σ H => ∃ (F : Addr → Prop) (H0 : Hp) (A : AM) (Γ : Gm) (r : Fw), StR c F H0 H A σ Γ ∧ f Γ = some r ∧ PostOk c F H0 E r
def isAtom : D → Bool
  | .none => true
  | .bool _ => true
  | .int _ => true
  | .str _ => true
  | _ => false
theorem Rep.atom {K : PySem.W.Frag} {H H' : Hp} {B B' : Addr → Prop} {v : V} {d : D} (r : Rep K H B v d) (h : isAtom d = true) : Rep K H' B' v d := by
  cases r <;> first | (cases h; done) | exact .non | exact .bl _ | exact .int _ | exact .str _
/-- the value of an expression is no longer one's own alone -/
def giveUp (S : List Nat) (d : D) (Γ : Gm) : Gm := if isAtom d = true then Γ else unown S Γ
def putNm (i : Nat) (fr : Bool) (S : List Nat) (d : D) (Γ : Gm) : Option Gm := if i < Γ.length then some ((giveUp S d Γ).set i (some (fr && isMut d, d))) else none
theorem unown_len (Γ : Gm) : ∀ S : List Nat, (unown S Γ).length = Γ.length := fun S => by
  induction S generalizing Γ with
  | nil => rfl
  | cons i S ih =>
    unfold unown
    rw [ih, offG_len]
def killG : List Nat → Gm → Gm
  | [], Γ => Γ
  | i :: L, Γ => killG L (Γ.set i none)
section
variable {c : Cc} {F : Addr → Prop} {H0 H H' : Hp} {A : AM} {σ : Sl} {Γ : Gm}
theorem StR.kill1 (S : StR c F H0 H A σ Γ) (i : Nat) : StR c F H0 H (cut A [i]) σ (Γ.set i none) := by
  refine ⟨by simp [S.len], fun j k a h1 h2 => S.inj j k a (cut_some h1).1 (cut_some h2).1, fun j a h => S.new j a (cut_some h).1, S.ftr, fun j f d h => ?_, fun j a h => ?_, S.ext, S.tab⟩
  · by_cases e : j = i
    · subst e
      by_cases hj : j < Γ.length
      · rw [List.getElem?_set_self hj] at h
        cases h
      · rw [List.getElem?_eq_none (by simpa using hj)] at h
        cases h
    · rw [List.getElem?_set_ne (Ne.symm e)] at h
      have q := S.sl j f d h
      cases f with
      | true =>
        rw [if_pos rfl] at q ⊢
        obtain ⟨a, h1, h2, h3⟩ := q
        exact ⟨a, cut_of h1 (by simpa using e), h2, h3.move (.weak fun b z => z.cut) fun _ _ z => z⟩
      | false =>
        rw [if_neg Bool.false_ne_true] at q ⊢
        obtain ⟨h0, w, h1, h2⟩ := q
        refine ⟨?_, w, h1, h2.move (.weak fun b z => z.cut)⟩
        unfold cut
        split
        · rfl
        · exact h0
  · obtain ⟨h1, h2⟩ := cut_some h
    obtain ⟨d, hd⟩ := S.own j a h1
    have e : j ≠ i := by simpa using h2
    exact ⟨d, by rw [List.getElem?_set_ne (Ne.symm e)]; exact hd⟩
theorem StR.kill (S : StR c F H0 H A σ Γ) : ∀ L : List Nat, StR c F H0 H (cut A L) σ (killG L Γ) := fun L => by
  induction L generalizing A Γ with
  | nil =>
    rw [cut_nil]
    exact S
  | cons i L ih =>
    have q := ih (S.kill1 i)
    rw [cut_cut] at q
    exact q
/-- a name is stored behind an expression -/
theorem StR.put {S : List Nat} {fr : Bool} {i : Nat} {v : V} {d : D} {Γ' : Gm} (s : StR c F H0 H A σ Γ) (x : Ext H H') (r : ResOk c H H' (Bn F (cut A S)) fr v d) (h : putNm i fr S d Γ = some Γ') : ∃ A', StR c F H0 H' A' (σ.set i (some v)) Γ' := by
  unfold putNm at h
  split at h
  · rename_i hi
    cases h
    unfold giveUp
    by_cases ha : isAtom d = true
    · rw [if_pos ha]
      have hm : (fr && isMut d) = false := by
        cases d <;> first | (cases ha; done) | simp [isMut]
      rw [hm]
      exact ⟨_, (s.grow x).set hi (r.1.atom ha)⟩
    · rw [if_neg ha]
      have su := s.unown S
      have hi' : i < (Dl.unown S Γ).length := by rw [unown_len]; exact hi
      by_cases hf : (fr && isMut d) = true
      · rw [hf]
        simp only [Bool.and_eq_true] at hf
        obtain ⟨a, rfl, hn, ho⟩ := r.2 hf.1 hf.2
        exact ⟨_, su.setNew x hi' hn (ho.move (.weak fun b z => z.imp Bn.cut id) fun _ _ e => e)⟩
      · have hf' : (fr && isMut d) = false := by simpa using hf
        rw [hf']
        exact ⟨_, (su.grow x).set hi' (r.1.move (.weak fun b z => z.cut))⟩
  · cases h
/-- some names are stored from a tuple -/
theorem StR.putT {S is : List Nat} {fr : Bool} {v : V} {ds : List D} {Γ' : Gm} {Q : Sl → Hp → Prop} (s : StR c F H0 H A σ Γ) (x : Ext H H') (r : ResOk c H H' (Bn F (cut A S)) fr v (.tuple ds)) (h : (Tg.tp is).put (.tuple ds) (Dl.unown S Γ) = some Γ') (q : ∀ σ' A', StR c F H0 H' A' σ' Γ' → Q σ' H') :
    ∃ a xs, v = .ref a ∧ SqT c.K H' a xs ∧ xs.length = is.length ∧ gSlots is xs σ H' Q := by
  unfold Tg.put at h
  simp only at h
  split at h
  · rename_i hl
    cases h
    obtain ⟨a, xs, rfl, h1, h2⟩ := r.1.seqT
    exact ⟨a, xs, rfl, h1, by rw [h2.length]; exact hl.1, gSlots_ok (A0 := A) (σ0 := σ) (L := []) ((s.unown S).grow x) h2 hl.1 hl.2 fun σ' S' so => q σ' _ S'⟩
  · cases h
end
section
variable {X : Cx} {c : Cc}
theorem ps_imp {st : Stmt} {t t' : TS} (h : PS X st t) (i : ∀ E σ H, t' E σ H → t E σ H) : PS X st t' := ⟨fun pins s σ H E I q => h.run pins s σ H E I (i _ _ _ q)⟩
theorem pss_imp {st : List Stmt} {t t' : TS} (h : PSs X st t) (i : ∀ E σ H, t' E σ H → t E σ H) : PSs X st t' := ⟨fun pins s σ H E I q => h.run pins s σ H E I (i _ _ _ q)⟩
variable {e : Expr} {Se : List Nat} {fe : Bool} {ve : Gm → Option D} {pos : Pos}
/-- reading of a store into a name -/
theorem rd_asgN {i : Nat} {E : Ends} {σ : Sl} {H : Hp} (h : tSd c (fun Γ => (ve Γ).bind fun d => (putNm i fe Se d Γ).map .nx) E σ H) : tAsg (tE c Se fe ve) (gName i) E σ H := by
  obtain ⟨F, H0, A, Γ, r, S, hf, q⟩ := h
  obtain ⟨d, e1, hf⟩ := bind_ok hf
  obtain ⟨Γ', e2, hf⟩ := map_ok hf
  subst hf
  refine ⟨F, H0, A, Γ, d, S, e1, fun v H' x r => ?_⟩
  obtain ⟨A', S'⟩ := S.put x r e2
  exact q _ _ _ S'
theorem rd_asgT {is : List Nat} {E : Ends} {σ : Sl} {H : Hp} (h : tSd c (fun Γ => (ve Γ).bind fun d => ((Tg.tp is).put d (unown Se Γ)).map .nx) E σ H) : tAsg (tE c Se fe ve) (gTup c.K is.length (gSlots is)) E σ H := by
  obtain ⟨F, H0, A, Γ, r, S, hf, q⟩ := h
  obtain ⟨d, e1, hf⟩ := bind_ok hf
  obtain ⟨Γ', e2, hf⟩ := map_ok hf
  subst hf
  refine ⟨F, H0, A, Γ, d, S, e1, fun v H' x r => ?_⟩
  cases d with
  | tuple ds => exact S.putT x r e2 fun σ' A' S' => q _ _ _ S'
  | _ => simp [Tg.put] at e2
theorem ds_ret (he : PE X e (tE c Se fe ve)) : PS X (.Return (some e) pos) (tSd c fun Γ => (ve Γ).map .rt) := ps_imp (ps_ret he) fun E σ H ⟨F, H0, A, Γ, r, S, hf, q⟩ => by
  obtain ⟨d, e1, hf⟩ := map_ok hf
  subst hf
  exact ⟨F, H0, A, Γ, d, S, e1, fun v H' x r => q v H' (S.ext.trans x) (r.1.move (.weak fun a h => .inl h))⟩
theorem ds_retN : PS X (.Return none pos) (tSd c fun _ => some (.rt .none)) := ps_imp ps_retN fun E σ H ⟨F, H0, A, Γ, r, S, hf, q⟩ => by
  cases hf
  exact q _ _ S.ext .non
theorem ds_brk : PS X (.Break pos) (tSd c fun Γ => some (.bk Γ)) := ps_imp ps_break fun E σ H ⟨F, H0, A, Γ, r, S, hf, q⟩ => by
  cases hf
  exact q _ _ _ S
theorem ds_cnt : PS X (.Continue pos) (tSd c fun Γ => some (.ct Γ)) := ps_imp ps_continue fun E σ H ⟨F, H0, A, Γ, r, S, hf, q⟩ => by
  cases hf
  exact q _ _ _ S
theorem ds_pas : PS X (.Pass pos) (tSd c fun Γ => some (.nx Γ)) := ps_imp ps_pass fun E σ H ⟨F, H0, A, Γ, r, S, hf, q⟩ => by
  cases hf
  exact q _ _ _ S
def seqF (g : Gm → Option Fw) : Fw → Option Fw
  | .nx Γ => g Γ
  | r => some r
theorem dss_nil : PSs X [] (tSd c fun Γ => some (.nx Γ)) := pss_imp pss_nil fun E σ H ⟨F, H0, A, Γ, r, S, hf, q⟩ => by
  cases hf
  exact q _ _ _ S
theorem dss_cons {st : Stmt} {sts : List Stmt} {f g : Gm → Option Fw} (h1 : PS X st (tSd c f)) (h2 : PSs X sts (tSd c g)) : PSs X (st :: sts) (tSd c fun Γ => (f Γ).bind (seqF g)) := pss_imp (pss_cons h1 h2) fun E σ H ⟨F, H0, A, Γ, r, S, hf, q⟩ => by
  obtain ⟨r1, e1, hf⟩ := bind_ok hf
  refine ⟨F, H0, A, Γ, r1, S, e1, ?_⟩
  cases r1 with
  | nx Γ1 => exact fun σ1 H1 A1 S1 => ⟨F, H0, A1, Γ1, r, S1, hf, q⟩
  | rt d =>
    cases hf
    exact q
  | bk Γ1 =>
    cases hf
    exact q
  | ct Γ1 =>
    cases hf
    exact q
theorem ds_if {t : Expr} {a b : List Stmt} {tt : Gm → Option Bool} {f g : Gm → Option Fw} (ht : PT X t (tTs c tt)) (ha : PSs X a (tSd c f)) (hb : PSs X b (tSd c g)) : PS X (.If t a b pos) (tSd c fun Γ => (tt Γ).bind fun k => if k = true then f Γ else g Γ) :=
  ps_imp (ps_if ht ha hb) fun E σ H ⟨F, H0, A, Γ, r, S, hf, q⟩ => by
    obtain ⟨k, e1, hf⟩ := bind_ok hf
    refine ⟨F, H0, A, Γ, k, S, e1, fun H1 x1 => ?_⟩
    cases k with
    | true =>
      rw [if_pos rfl] at hf
      exact iteT ⟨F, H0, A, Γ, r, S.grow x1, hf, q⟩
    | false =>
      rw [if_neg Bool.false_ne_true] at hf
      exact iteF ⟨F, H0, A, Γ, r, S.grow x1, hf, q⟩

/-! ### loops -/
def stepL (kl : List Nat) (go : Gm → Option Fw) : Fw → Option Fw
  | .nx Γ => go (killG kl Γ)
  | .ct Γ => go (killG kl Γ)
  | .bk Γ => some (.nx (killG kl Γ))
  | .rt d => some (.rt d)
def evFor (t : Tg) (body : Gm → Option Fw) (kl : List Nat) : List D → Gm → Option Fw
  | [], Γ => some (.nx Γ)
  | d :: ds, Γ => (t.put d Γ).bind fun Γ1 => (body Γ1).bind (stepL kl (evFor t body kl ds))
def evWhile (tt : Gm → Option Bool) (body : Gm → Option Fw) (kl : List Nat) : Nat → Gm → Option Fw
  | 0, _ => none
  | n + 1, Γ => (tt Γ).bind fun k => if k = true then (body Γ).bind (stepL kl (evWhile tt body kl n)) else some (.nx Γ)
theorem rd_for {wi : TI} {t : Tg} {S : List Nat} {fi : Gm → Option (List D)} {f : Gm → Option Fw} {kl : List Nat} (hi : ∀ σ H R, tIt c S fi σ H R → wi σ H R) {E : Ends} {σ : Sl} {H : Hp}
    (h : tSd c (fun Γ => (fi Γ).bind fun ds => evFor t f kl ds (killG kl (unown S Γ))) E σ H) : tFor wi (tGt c t) (tSd c f) E σ H := by
  obtain ⟨F, H0, A, Γ, r, Sr, hf, q⟩ := h
  obtain ⟨ds, e1, hf⟩ := bind_ok hf
  refine hi _ _ _ ⟨F, H0, A, Γ, ds, Sr, e1, fun J H1 x1 wk hz => ?_⟩
  have S1 := (Sr.grow x1).unown S
  have S2 := S1.rebase.kill kl
  have low := S1.below
  have inb : Ext (base F H1 (cut A S)) (Dl.rebase H1 (cut A S)) := by
    have ne : ∀ b, ¬ Bn F (cut A S) b → ∀ i, cut A S i ≠ some b := fun b n i z => n (.inr ⟨i, z⟩)
    exact ⟨fun b o h _ => rebase_of (base_some h).1 (ne b (base_some h).2), fun b ps h => ⟨ps, rebase_of (base_some h).1 (ne b (base_some h).2), id⟩⟩
  refine ⟨fun i m σ' H' => m = ds.length - i ∧ i ≤ ds.length ∧ ∃ A' Γ', StR c F (Dl.rebase H1 (cut A S)) H' A' σ' Γ' ∧ evFor t f kl (ds.drop i) Γ' = some r, ⟨ds.length, by simp, Nat.zero_le _, _, _, S2, hf⟩, ?_⟩
  rintro i m σ' H' ⟨rfl, hi', A', Γ', S', e3⟩
  have e0 : Ext (base F H1 (cut A S)) H' := inb.trans S'.ext
  by_cases hlt : i < ds.length
  · refine .inr ⟨wk.goes i H' hlt e0, fun σ2 H2 => ∃ A2 Γ2, StR c F (Dl.rebase H1 (cut A S)) H2 A2 σ2 Γ2 ∧ evFor t f kl (ds.drop (i + 1)) Γ2 = some r, fun σ2 H2 ⟨A2, Γ2, a1, a2⟩ => ⟨ds.length - (i + 1), by omega, rfl, hlt, A2, Γ2, a1, a2⟩, fun v H2 hy => ?_⟩
    obtain ⟨x3, dd, hd, rv⟩ := wk.yields i H' v H2 (Bn F A') hlt e0 (fun a h => S'.btr h) (fun a h => by
      rcases h with h | ⟨j, h⟩
      · exact base_none (.inl h)
      · have n := (S'.new j a h).1
        cases e : base F H1 (cut A S) a with
        | none => rfl
        | some o =>
          rw [rebase_of (base_some e).1 fun i z => (base_some e).2 (.inr ⟨i, z⟩)] at n
          cases n) hy
    have ed : ds.drop i = dd :: ds.drop (i + 1) := by
      rw [List.drop_eq_getElem_cons hlt]
      rw [List.getElem?_eq_getElem hlt] at hd
      rw [Option.some.inj hd]
    rw [ed] at e3
    unfold evFor at e3
    obtain ⟨Γ1, e4, e3⟩ := bind_ok e3
    obtain ⟨r1, e5, e3⟩ := bind_ok e3
    refine ⟨F, _, A', Γ', dd, Γ1, S'.grow x3, rv, e4, fun σ3 S3 so => ⟨F, _, _, Γ1, r1, S3, e5, ?_⟩⟩
    cases r1 with
    | nx Γ2 => exact fun σ4 H4 A4 S4 => ⟨_, _, S4.kill kl, e3⟩
    | ct Γ2 => exact fun σ4 H4 A4 S4 => ⟨_, _, S4.kill kl, e3⟩
    | bk Γ2 =>
      cases e3
      exact fun σ4 H4 A4 S4 => q _ _ _ ((S4.kill kl).back low)
    | rt d =>
      cases e3
      exact fun v4 H4 x4 r4 => q v4 H4 (low.trans x4) r4
  · have e : i = ds.length := by omega
    subst e
    rw [List.drop_length] at e3
    cases e3
    exact .inl ⟨wk.stops H' e0, q _ _ _ (S'.back low)⟩
theorem rd_while {tt : Gm → Option Bool} {f : Gm → Option Fw} {kl : List Nat} {n : Nat} {E : Ends} {σ : Sl} {H : Hp} (h : tSd c (fun Γ => evWhile tt f kl n (killG kl Γ)) E σ H) : tWhile (tTs c tt) (tSd c f) E σ H := by
  obtain ⟨F, H0, A, Γ, r, Sr, hf, q⟩ := h
  refine ⟨fun m σ' H' => ∃ A' Γ', StR c F H0 H' A' σ' Γ' ∧ evWhile tt f kl m Γ' = some r, ⟨n, _, _, Sr.kill kl, hf⟩, ?_⟩
  rintro m σ' H' ⟨A', Γ', S', e3⟩
  cases m with
  | zero => cases e3
  | succ m =>
    unfold evWhile at e3
    obtain ⟨k, e4, e3⟩ := bind_ok e3
    refine ⟨F, H0, A', Γ', k, S', e4, fun H2 x2 => ?_⟩
    cases k with
    | false =>
      rw [if_neg Bool.false_ne_true] at e3
      cases e3
      exact iteF (q _ _ _ (S'.grow x2))
    | true =>
      rw [if_pos rfl] at e3
      obtain ⟨r1, e5, e3⟩ := bind_ok e3
      refine iteT ⟨fun σ2 H2 => ∃ A2 Γ2, StR c F H0 H2 A2 σ2 Γ2 ∧ evWhile tt f kl m Γ2 = some r, fun σ2 H2 ⟨A2, Γ2, a1, a2⟩ => ⟨m, by omega, A2, Γ2, a1, a2⟩, F, H0, A', Γ', r1, S'.grow x2, e5, ?_⟩
      cases r1 with
      | nx Γ2 => exact fun σ4 H4 A4 S4 => ⟨_, _, S4.kill kl, e3⟩
      | ct Γ2 => exact fun σ4 H4 A4 S4 => ⟨_, _, S4.kill kl, e3⟩
      | bk Γ2 =>
        cases e3
        exact fun σ4 H4 A4 S4 => q _ _ _ (S4.kill kl)
      | rt d =>
        cases e3
        exact fun v4 H4 x4 r4 => q v4 H4 x4 r4
end
end Dl

set_option Elab.async false
set_option linter.all false
set_option maxRecDepth 100000
set_option maxHeartbeats 8000000
/-! Dl14: statements that write an owned cell. -/
namespace Dl
open PySem PySem.Spec PyProof.Rows L2

section
variable {c : Cc} {F : Addr → Prop} {H0 H H' : Hp} {A : AM} {σ : Sl} {Γ : Gm}
theorem StR.mutate (S : StR c F H0 H A σ Γ) {i : Nat} {a : Addr} {d' : D} {o' : HO} (hA : A i = some a) (nt : NT o') (hO : OwnC c.K (upd H a o') (Bn F A) a d') : StR c F H0 (upd H a o') A σ (Γ.set i (some (true, d'))) := by
  have hB : Bn F A a := .inr ⟨i, hA⟩
  have ha0 := (S.new i a hA).1
  have hi := S.lenA hA
  obtain ⟨d, hd⟩ := S.own i a hA
  have oc : OwnC c.K H (Bn F A) a d ∧ σ[i]? = some (some (.ref a)) := by
    have q := S.sl i true d hd
    rw [if_pos rfl] at q
    obtain ⟨a', h1, h2, h3⟩ := q
    rw [hA] at h1
    cases h1
    exact ⟨h3, h2⟩
  obtain ⟨u0, hu0, hn0⟩ := oc.1.tracked
  refine ⟨by simp [S.len], S.inj, S.new, fun b h => ?_, fun j f e h => ?_, fun j b h => ?_, ?_, fun p hp => ?_⟩
  · by_cases e : b = a
    · exact ⟨o', by rw [e, upd_same]⟩
    · rw [upd_ne e]
      exact S.ftr b h
  · by_cases e1 : j = i
    · subst e1
      rw [List.getElem?_set_self hi] at h
      cases h
      rw [if_pos rfl]
      exact ⟨a, hA, oc.2, hO⟩
    · rw [List.getElem?_set_ne (Ne.symm e1)] at h
      have q := S.sl j f e h
      cases f with
      | true =>
        rw [if_pos rfl] at q ⊢
        obtain ⟨b, h1, h2, h3⟩ := q
        refine ⟨b, h1, h2, h3.move (.upd hB) fun u _ z => ?_⟩
        rw [upd_ne (fun z => e1 (S.inj j i b h1 (by rw [z]; exact hA)))]
        exact z
      | false =>
        rw [if_neg Bool.false_ne_true] at q ⊢
        obtain ⟨h0, v, h2, h3⟩ := q
        exact ⟨h0, v, h2, h3.move (.upd hB)⟩
  · by_cases e1 : j = i
    · subst e1
      exact ⟨d', by rw [List.getElem?_set_self hi]⟩
    · rw [List.getElem?_set_ne (Ne.symm e1)]
      exact S.own j b h
  · exact ⟨fun b o h n => by
      rw [upd_ne (fun z => by rw [z, ha0] at h; cases h)]
      exact S.ext.keep b o h n, fun b ps h => by
      rw [upd_ne (fun z => by rw [z, ha0] at h; cases h)]
      exact S.ext.tab b ps h⟩
  · obtain ⟨ps, h, t⟩ := S.tab p hp
    refine ⟨ps, ?_, t⟩
    rw [upd_ne (fun z => by
      rw [z, hu0] at h
      cases h
      exact hn0)]
    exact h
theorem StR.give1 {S : List Nat} {fr : Bool} {v : V} {d : D} (s : StR c F H0 H A σ Γ) (x : Ext H H') (r : ResOk c H H' (Bn F (cut A S)) fr v d) : ∃ A', StR c F H0 H' A' σ (giveUp S d Γ) ∧ Rep c.K H' (Bn F A') v d ∧ (∀ i a, A' i = some a → A i = some a) ∧ (isAtom d = false → ∀ a, Bn F A' a → Bn F (cut A S) a) := by
  unfold giveUp
  by_cases ha : isAtom d = true
  · rw [if_pos ha]
    exact ⟨A, s.grow x, r.1.atom ha, fun _ _ h => h, fun h => by rw [ha] at h; cases h⟩
  · rw [if_neg ha]
    exact ⟨_, (s.grow x).unown S, r.1, fun i a h => (cut_some h).1, fun _ _ h => h⟩
theorem unown_own : ∀ (S : List Nat) {Γ : Gm} {i : Nat} {d : D}, (Dl.unown S Γ)[i]? = some (some (true, d)) → Γ[i]? = some (some (true, d))
  | [], Γ, i, d, h => h
  | j :: S, Γ, i, d, h => by
    have q := unown_own S h
    by_cases e : i = j
    · subst e
      exact absurd (offG_at q).1 (by decide)
    · rw [offG_ne e] at q
      exact q
theorem giveUp_own {S : List Nat} {e : D} {i : Nat} {d : D} (h : (giveUp S e Γ)[i]? = some (some (true, d))) : Γ[i]? = some (some (true, d)) := by
  unfold giveUp at h
  split at h
  · exact h
  · exact unown_own S h
theorem StR.ownAt (S : StR c F H0 H A σ Γ) {i : Nat} {d : D} (h : Γ[i]? = some (some (true, d))) : ∃ a, A i = some a ∧ σ[i]? = some (some (.ref a)) ∧ OwnC c.K H (Bn F A) a d := by
  have q := S.sl i true d h
  rw [if_pos rfl] at q
  exact q
end

/-- the owned value of a slot is replaced -/
def onOwn (i : Nat) (g : D → Option D) (Γ : Gm) : Option Gm := match Γ[i]? with
  | some (some (true, d)) => (g d).map fun d' => Γ.set i (some (true, d'))
  | _ => none
theorem onOwn_of {i : Nat} {g : D → Option D} {Γ Γ' : Gm} (h : onOwn i g Γ = some Γ') : ∃ d d', Γ[i]? = some (some (true, d)) ∧ g d = some d' ∧ Γ' = Γ.set i (some (true, d')) := by
  unfold onOwn at h
  split at h
  · rename_i d e
    obtain ⟨d', h1, h2⟩ := map_ok h
    exact ⟨d, d', e, h1, h2.symm⟩
  · cases h
def dApp (d : D) : D → Option D
  | .list ds => if ds.length < 16777216 then some (.list (ds ++ [d])) else none
  | _ => none
def dExt (d : D) : D → Option D
  | .list ds => match d with
    | .list es => if fit (ds.length + es.length) then some (.list (ds ++ es)) else none
    | _ => none
  | _ => none
def dSetL (k : Int) (d : D) : D → Option D
  | .list ds => (ixN ds.length k).map fun j => .list (ds.set j d)
  | _ => none
def dPop : D → Option (D × D)
  | .list ds => (ds[ds.length - 1]?).map fun d => (d, .list ds.dropLast)
  | _ => none

section
variable {X : Cx} {c : Cc}
variable {e k : Expr} {Se Sk : List Nat} {fe fk : Bool} {ve vk : Gm → Option D} {pos apos cpos pos' tpos : Pos}
/-- an augmented store, of texts and ints -/
inductive AOp where
  | add | sub | mul
def AOp.op : AOp → Operator
  | .add => .Add
  | .sub => .Sub
  | .mul => .Mult
def AOp.fo : AOp → D → D → Option D
  | .add => fun x y => match x, y with
    | .int i, .int j => some (.int (i + j))
    | .str a, .str b => if fit (a.length + b.length) then some (.str (a ++ b)) else none
    | _, _ => none
  | .sub => dSub
  | .mul => dMul
def rAu (o : AOp) (c : Cc) : V → V → Hp → VK → Prop := fun x y H Q => ∃ (B B' : Addr → Prop) (a b r : D), Rep c.K H B x a ∧ Rep c.K H B' y b ∧ o.fo a b = some r ∧ isAtom r = true ∧ ∀ v, (∀ H B, Rep c.K H B v r) → Q v H
theorem AOp.ok (o : AOp) : PIp X o.op (rAu o c) := by
  intro pins s σ H x y v u Q I rx ry ⟨B, B', a, b, r, ra, rb, hf, _, q⟩
  cases o with
  | add =>
    unfold AOp.fo at hf
    simp only at hf
    split at hf
    · cases hf
      cases ra
      cases rb
      exact augR iop_add I rx ry ⟨_, _, rfl, rfl, q _ fun _ _ => .int _⟩
    · split at hf
      · rename_i hz
        cases hf
        cases ra
        cases rb
        exact augR iop_add_str I rx ry ⟨_, _, rfl, rfl, fit_size hz, q _ fun _ _ => .str _⟩
      · cases hf
    · cases hf
  | sub =>
    unfold AOp.fo dSub at hf
    simp only at hf
    split at hf
    · cases hf
      cases ra
      cases rb
      exact augR iop_sub I rx ry ⟨_, _, rfl, rfl, q _ fun _ _ => .int _⟩
    · cases hf
  | mul =>
    unfold AOp.fo dMul at hf
    simp only at hf
    split at hf
    · split at hf
      · rename_i hz
        cases hf
        cases ra
        cases rb
        exact augR iop_mul I rx ry ⟨_, _, rfl, rfl, by
          have hz' := of_decide_eq_true hz
          exact hz', q _ fun _ _ => .int _⟩
      · cases hf
    · cases hf
theorem AOp.atom (o : AOp) {a b r : D} (h : o.fo a b = some r) : isAtom r = true := by
  cases o with
  | add =>
    unfold AOp.fo at h
    simp only at h
    split at h
    · cases h
      rfl
    · split at h
      · cases h
        rfl
      · cases h
    · cases h
  | sub =>
    unfold AOp.fo dSub at h
    simp only at h
    split at h
    · cases h
      rfl
    · cases h
  | mul =>
    unfold AOp.fo dMul at h
    simp only at h
    split at h
    · split at h
      · cases h
        rfl
      · cases h
    · cases h
def evAug (o : AOp) (i : Nat) (ve : Gm → Option D) (Γ : Gm) : Option Fw := (getG Γ i).bind fun x => (ve Γ).bind fun y => (o.fo x y).map fun r => .nx (Γ.set i (some (false, r)))
theorem rd_aug {o : AOp} {i : Nat} {E : Ends} {σ : Sl} {H : Hp} (h : tSd c (evAug o i ve) E σ H) : tAug i (tE c Se fe ve) (rAu o c) E σ H := by
  obtain ⟨F, H0, A, Γ, r, S, hf, q⟩ := h
  obtain ⟨dx, e1, hf⟩ := bind_ok hf
  obtain ⟨dy, e2, hf⟩ := bind_ok hf
  obtain ⟨dr, e3, hf⟩ := map_ok hf
  subst hf
  obtain ⟨f, hg⟩ := getG_of e1
  obtain ⟨x, h1, h2⟩ := S.val hg
  refine ⟨x, h1, F, H0, A, Γ, dy, S, e2, fun v H' x' r' => ⟨_, _, dx, dy, dr, h2.move (.ext x'), r'.1, e3, o.atom e3, fun w rw => ?_⟩⟩
  exact q _ _ _ ((S.grow x').set (List.getElem?_eq_some_iff.mp hg).1 (rw _ _))
theorem ds_aug {o : AOp} {i : Nat} {x : Str} (hN : X.N.Nodup) (hi : X.N[i]? = some x) (hx : Loc X.env.scope x) (hf : X.fn x = true ∨ X.env.scope.names.lookup x = some .local) (he : PE X e (tE c Se fe ve)) : PS X (.AugAssign (.Name x pos') o.op e pos) (tSd c (evAug o i ve)) :=
  ps_imp (ps_aug hN hi hx he o.ok hf) fun E σ H q => rd_aug q

/-! ### methods of lists -/
def evApp (i : Nat) (Se : List Nat) (ve : Gm → Option D) (Γ : Gm) : Option Fw := (ve Γ).bind fun d => (onOwn i (dApp d) (giveUp Se d Γ)).map .nx
def evExt (i : Nat) (Se : List Nat) (ve : Gm → Option D) (Γ : Gm) : Option Fw := (ve Γ).bind fun d => (onOwn i (dExt d) (giveUp Se d Γ)).map .nx
theorem m1_star {x : Str} {m : Str} {e : Expr} (h : okHead e = true) : starEach [e] X.env = (false, eval e X.env) :: starEach [] X.env := head_star h _ _
theorem ds_app {i : Nat} {x : Str} (hN : X.N[i]? = some x) (hv : Vis X.env.scope x) (hd : (x == ("__debug__" : Str)) = false) (hcd : (x == ("__classdict__" : Str)) = false) (he : PE X e (tE c Se fe ve)) (hh : okHead e = true)
    (hline : (apos.endLine == cpos.line) = true) :
    PS X (.Expr (.Call (.Attribute (.Name x pos') "append" apos) [e] [] cpos) pos) (tSd c (evApp i Se ve)) := by
  have hst := head_star hh [] X.env
  refine ps_imp (ps_expr (pe_bm PySem.F.plainAttrs_list PySem.F.slot_list_append PySem.F.type_list_append mt_append (pe_var hN hv hd hcd) (pa_cons he pa_nil hst) (head_base (e := .Name x pos') rfl _ _ _) (by rw [hst]; rfl) hline hst rfl) (head_sw rfl _ _ _)) fun E σ H ⟨F, H0, A, Γ, r, S, hf, q⟩ => ?_
  obtain ⟨d, e1, hf⟩ := bind_ok hf
  obtain ⟨Γ', e2, hf⟩ := map_ok hf
  subst hf
  obtain ⟨dl, dl', e3, e4, rfl⟩ := onOwn_of e2
  obtain ⟨a, a1, a2, a3⟩ := S.ownAt (giveUp_own e3)
  unfold dApp at e4
  split at e4
  · rename_i ds
    split at e4
    · rename_i hz
      cases e4
      cases a3 with
      | lst hH rL =>
        refine ⟨_, a2, .inl ⟨rfl, _, .inl (.inl hH)⟩, F, H0, A, Γ, d, S, e1, fun v H' xx rr => ?_⟩
        obtain ⟨A', S', rv, _⟩ := S.give1 xx rr
        obtain ⟨a', b1, b2, b3⟩ := S'.ownAt e3
        rw [a2] at b2
        cases b2
        cases b3 with
        | lst hH' rL' =>
          have hl := rL'.length
          have hz' := sizeLine_eq
          exact ⟨a, _, v, rfl, rfl, hH', by omega, q _ _ _ (S'.mutate b1 trivial (.lst upd_same ((rL'.app (.cons rv .nil)).move (.upd (.inr ⟨i, b1⟩)))))⟩
    · cases e4
  · cases e4
theorem ds_ext {i : Nat} {x : Str} (hN : X.N[i]? = some x) (hv : Vis X.env.scope x) (hd : (x == ("__debug__" : Str)) = false) (hcd : (x == ("__classdict__" : Str)) = false) (he : PE X e (tE c Se true ve)) (hh : okHead e = true)
    (hline : (apos.endLine == cpos.line) = true) :
    PS X (.Expr (.Call (.Attribute (.Name x pos') "extend" apos) [e] [] cpos) pos) (tSd c (evExt i Se ve)) := by
  have hst := head_star hh [] X.env
  refine ps_imp (ps_expr (pe_bm PySem.F.plainAttrs_list PySem.F.slot_list_extend PySem.F.type_list_extend mt_extend (pe_var hN hv hd hcd) (pa_cons he pa_nil hst) (head_base (e := .Name x pos') rfl _ _ _) (by rw [hst]; rfl) hline hst rfl) (head_sw rfl _ _ _)) fun E σ H ⟨F, H0, A, Γ, r, S, hf, q⟩ => ?_
  obtain ⟨d, e1, hf⟩ := bind_ok hf
  obtain ⟨Γ', e2, hf⟩ := map_ok hf
  subst hf
  obtain ⟨dl, dl', e3, e4, rfl⟩ := onOwn_of e2
  obtain ⟨a, a1, a2, a3⟩ := S.ownAt (giveUp_own e3)
  unfold dExt at e4
  split at e4
  · rename_i ds
    split at e4
    · rename_i es
      split at e4
      · rename_i hz
        cases e4
        cases a3 with
        | lst hH rL =>
          refine ⟨_, a2, .inl ⟨rfl, _, .inl (.inl hH)⟩, F, H0, A, Γ, _, S, e1, fun v H' xx rr => ?_⟩
          obtain ⟨A', S', rv, up⟩ := S.give1 xx rr
          obtain ⟨a', b1, b2, b3⟩ := S'.ownAt e3
          rw [a2] at b2
          cases b2
          obtain ⟨b, rfl, nb, ob⟩ := rr.2 rfl rfl
          cases ob with
          | lst hb rb =>
            cases b3 with
            | lst hH' rL' =>
              have hl := rL'.length
              have hl2 := rb.length
              have hz' := fit_size hz
              exact ⟨a, b, _, _, rfl, rfl, hH', hb, by omega, q _ _ _ (S'.mutate b1 trivial (.lst upd_same ((rL'.app (rb.move (.weak fun z h => .inl (up.2 rfl z h)))).move (.upd (.inr ⟨i, b1⟩)))))⟩
      · cases e4
    · cases e4
  · cases e4
/-- x = xs.pop() -/
def evPop (j i : Nat) (Γ : Gm) : Option Fw := match Γ[i]? with
  | some (some (true, d)) => (dPop d).bind fun p => (putNm j false [] p.1 (Γ.set i (some (true, p.2)))).map .nx
  | _ => none
theorem ds_pop {i j : Nat} {x y : Str} (hNd : X.N.Nodup) (hj : X.N[j]? = some y) (hy : Loc X.env.scope y) (hf : X.fn y = true ∨ X.env.scope.names.lookup y = some .local) (hN : X.N[i]? = some x) (hv : Vis X.env.scope x) (hd : (x == ("__debug__" : Str)) = false) (hcd : (x == ("__classdict__" : Str)) = false) 
    (hline : (apos.endLine == cpos.line) = true) :
    PS X (.Assign [.Name y tpos] (.Call (.Attribute (.Name x pos') "pop" apos) [] [] cpos) pos) (tSd c (evPop j i)) := by
  refine ps_imp (ps_set hNd hj hy (pe_bm0 PySem.F.plainAttrs_list PySem.F.slot_list_pop PySem.F.type_list_pop mt_pop (pe_var hN hv hd hcd) (head_base (e := .Name x pos') rfl _ _ _) hline) (head_sw rfl _ _ _) hf) fun E σ H ⟨F, H0, A, Γ, r, S, hf, q⟩ => ?_
  unfold evPop at hf
  split at hf
  · rename_i d e3
    obtain ⟨p, e4, hf⟩ := bind_ok hf
    obtain ⟨Γ', e5, hf⟩ := map_ok hf
    subst hf
    obtain ⟨a, a1, a2, a3⟩ := S.ownAt e3
    cases d with
    | list ds =>
      obtain ⟨d, e6, rfl⟩ := map_ok e4
      cases a3 with
      | lst hH rL =>
        obtain ⟨v, hv, rv⟩ := rL.get e6
        refine ⟨_, a2, .inl ⟨rfl, _, .inl (.inl hH)⟩, a, _, v, rfl, rfl, hH, by rw [rL.length]; exact hv, ?_⟩
        have r2 : RepL c.K H (Bn F A) _ (ds.take (ds.length - 1)) := rL.take (ds.length - 1)
        rw [← List.dropLast_eq_take, ← rL.length, ← List.dropLast_eq_take] at r2
        have S1 := S.mutate (o' := .lst _) (d' := .list ds.dropLast) a1 trivial (.lst upd_same (r2.move (.upd (.inr ⟨i, a1⟩))))
        obtain ⟨A', S2⟩ := S1.put (S := []) (fr := false) (.refl _) (.sh (by rw [cut_nil]; exact rv.move (.upd (.inr ⟨i, a1⟩)))) e5
        exact q _ _ _ S2
    | _ => simp [dPop] at e4
  · cases hf
/-! ### item stores -/
def evSetL (i : Nat) (Se Sk : List Nat) (ve vk : Gm → Option D) (Γ : Gm) : Option Fw := (ve Γ).bind fun d => ((vk Γ).bind asI).bind fun k => (onOwn i (dSetL k d) (giveUp Se d Γ)).map .nx
def evSetD (i : Nat) (Se Sk : List Nat) (ve vk : Gm → Option D) (Γ : Gm) : Option Fw := (ve Γ).bind fun d => (vk Γ).bind fun k => (onOwn i (fun x => dPut x k d) (giveUp Sk k (giveUp Se d Γ))).map .nx
theorem ds_setL {i : Nat} {x : Str} (hN : X.N[i]? = some x) (hv : Vis X.env.scope x) (hd : (x == ("__debug__" : Str)) = false) (hcd : (x == ("__classdict__" : Str)) = false) (he : PE X e (tE c Se fe ve)) (hk : PE X k (tE c Sk fk vk)) (hkk : okHead k = true) :
    PS X (.Assign [.Subscript (.Name x pos') k tpos] e pos) (tSd c (evSetL i Se Sk ve vk)) := by
  have ha : ∀ v, assign (.Subscript (.Name x pos') k tpos) X.env v = (do
      let ov ← holding [v] (eval (.Name x pos') X.env)
      let iv ← holding [v, ov] (eval k X.env)
      standAt tpos
      holding [v, ov, iv] (setItem ov iv v)
      release [v, ov, iv] []) := fun v => by
    cases k <;> first | rfl | cases hkk
  refine ps_imp (ps_asg he (pg_sub (pe_var hN hv hd hcd) hk set_list ha) (by cases e <;> rfl) rfl rfl) fun E σ H ⟨F, H0, A, Γ, r, S, hf, q⟩ => ?_
  obtain ⟨d, e1, hf⟩ := bind_ok hf
  obtain ⟨kk, e0, hf⟩ := bind_ok hf
  obtain ⟨dk, e5, e6⟩ := bind_ok e0
  obtain ⟨Γ', e2, hf⟩ := map_ok hf
  subst hf
  obtain ⟨dl, dl', e3, e4, rfl⟩ := onOwn_of e2
  refine ⟨F, H0, A, Γ, d, S, e1, fun v H1 x1 r1 => ?_⟩
  obtain ⟨a, a1, a2, a3⟩ := S.ownAt (giveUp_own e3)
  refine ⟨_, a2, F, H0, A, Γ, dk, S.grow x1, e5, fun w H2 x2 r2 => ?_⟩
  cases dk with
  | int kv =>
    cases e6
    have rw' := r2.1
    cases rw'
    obtain ⟨A', S', rv, _⟩ := S.give1 (x1.trans x2) ⟨r1.1.move (.ext x2), fun h m => by
      obtain ⟨p, h1, h2, h3⟩ := r1.2 h m
      exact ⟨p, h1, h2, h3.move (.ext x2) fun u n e => x2.keep _ _ e n⟩⟩
    obtain ⟨a', b1, b2, b3⟩ := S'.ownAt e3
    rw [a2] at b2
    cases b2
    cases b3 with
    | lst hH' rL' =>
      obtain ⟨jj, e7, e8⟩ := map_ok e4
      subst e8
      exact ⟨a, _, _, jj, rfl, rfl, hH', by rw [rL'.length]; exact e7, q _ _ _ (S'.mutate b1 trivial (.lst upd_same ((RepL.set rv jj rL').move (.upd (.inr ⟨i, b1⟩)))))⟩
    | dicK _ _ => cases e4
    | dicT _ _ => cases e4
  | _ => cases e6
theorem ds_setD (hu : X.A.units + 1 < cLine) {i : Nat} {x : Str} (hN : X.N[i]? = some x) (hv : Vis X.env.scope x) (hd : (x == ("__debug__" : Str)) = false) (hcd : (x == ("__classdict__" : Str)) = false) (he : PE X e (tE c Se fe ve)) (hk : PE X k (tE c Sk fk vk)) :
    PS X (.Assign [.Subscript (.Name x pos') k tpos] e pos) (tSd c (evSetD i Se Sk ve vk)) := by
  refine ps_imp (ps_dput hu (pe_var hN hv hd hcd) hk he (by cases e <;> rfl)) fun E σ H ⟨F, H0, A, Γ, r, S, hf, q⟩ => ?_
  obtain ⟨d, e1, hf⟩ := bind_ok hf
  obtain ⟨dk, e5, hf⟩ := bind_ok hf
  obtain ⟨Γ', e2, hf⟩ := map_ok hf
  subst hf
  obtain ⟨dl, dl', e3, e4, rfl⟩ := onOwn_of e2
  refine ⟨F, H0, A, Γ, d, S, e1, fun v H1 x1 r1 => ?_⟩
  obtain ⟨a, a1, a2, a3⟩ := S.ownAt (giveUp_own (giveUp_own e3))
  refine ⟨_, a2, F, H0, A, Γ, dk, S.grow x1, e5, fun w H2 x2 r2 => ?_⟩
  obtain ⟨A1, S1, rv, up1⟩ := S.give1 (x1.trans x2) ⟨r1.1.move (.ext x2), fun h m => by
      obtain ⟨p, h1, h2, h3⟩ := r1.2 h m
      exact ⟨p, h1, h2, h3.move (.ext x2) fun u n e => x2.keep _ _ e n⟩⟩
  obtain ⟨A2, S2, rk, up2⟩ := S1.give1 (S := Sk) (fr := false) (.refl H2) (.sh (r2.weak (B' := Bn F (cut A1 Sk)) fun z h => by
    rcases h with h | ⟨j, h⟩
    · exact .inl h
    · exact .inr ⟨j, cut_of (up1.1 _ _ (cut_some h).1) (cut_some h).2⟩).1)
  obtain ⟨a', b1, b2, b3⟩ := S2.ownAt e3
  rw [a2] at b2
  cases b2
  obtain ⟨o', p1, p2, p3⟩ := own_put b3 rk (rv.move (.weak fun z h => h.imp id fun ⟨j, h⟩ => ⟨j, up2.1 _ _ h⟩)) (.inr ⟨i, b1⟩) e4
  exact ⟨a, _, rfl, p1, q _ _ _ (S2.mutate b1 p3 p2)⟩
end
end Dl

set_option Elab.async false
set_option linter.all false
set_option maxRecDepth 100000
set_option maxHeartbeats 8000000
/-! Dl15: statements as terms. -/
namespace Dl
open PySem PySem.Spec PyProof.Rows L2

mutual
inductive St where
  | asg (t : Tg) (e : Ex)
  | aug (o : AOp) (i : Nat) (e : Ex)
  | setL (i : Nat) (k e : Ex)
  | setD (i : Nat) (k e : Ex)
  | app (i : Nat) (e : Ex)
  | ext (i : Nat) (e : Ex)
  | pop (j i : Nat)
  | ite (t : Ex) (a b : Sts)
  | for_ (t : Tg) (it : Ir) (b : Sts) (kl : List Nat)
  | wh (t : Ex) (b : Sts) (kl : List Nat)
  | ret (e : Ex)
  | retN
  | brk
  | cnt
  | pas
inductive Sts where
  | nil
  | cons (s : St) (r : Sts)
end
def evAsg (t : Tg) (fr : Bool) (S : List Nat) (ve : Gm → Option D) (Γ : Gm) : Option Fw := (ve Γ).bind fun d => match t with
  | .nm i => (putNm i fr S d Γ).map .nx
  | .tp is => ((Tg.tp is).put d (unown S Γ)).map .nx
/-- turns that a loop is given -/
def fuel : Nat := 1000000000000
mutual
def evS (G : Gx) (Φ : Fs) : St → Gm → Option Fw
  | .asg t e => evAsg t (fre e) (esc e) (ev G Φ e)
  | .aug o i e => evAug o i (ev G Φ e)
  | .setL i k e => evSetL i (esc e) (esc k) (ev G Φ e) (ev G Φ k)
  | .setD i k e => evSetD i (esc e) (esc k) (ev G Φ e) (ev G Φ k)
  | .app i e => evApp i (esc e) (ev G Φ e)
  | .ext i e => evExt i (esc e) (ev G Φ e)
  | .pop j i => evPop j i
  | .ite t a b => fun Γ => ((ev G Φ t Γ).bind dTru).bind fun k => if k = true then evSs G Φ a Γ else evSs G Φ b Γ
  | .for_ t it b kl => fun Γ => (evi G Φ it Γ).bind fun ds => evFor t (evSs G Φ b) kl ds (killG kl (unown (esci it) Γ))
  | .wh t b kl => fun Γ => evWhile (fun Γ => (ev G Φ t Γ).bind dTru) (evSs G Φ b) kl fuel (killG kl Γ)
  | .ret e => fun Γ => (ev G Φ e Γ).map .rt
  | .retN => fun _ => some (.rt .none)
  | .brk => fun Γ => some (.bk Γ)
  | .cnt => fun Γ => some (.ct Γ)
  | .pas => fun Γ => some (.nx Γ)
def evSs (G : Gx) (Φ : Fs) : Sts → Gm → Option Fw
  | .nil => fun Γ => some (.nx Γ)
  | .cons s r => fun Γ => (evS G Φ s Γ).bind (seqF (evSs G Φ r))
end
def notTup : Expr → Bool
  | .Tuple _ _ _ => false
  | _ => true
section
variable (G : Gx) (N : List Str) (fn : Str → Bool) (sc : Scope)
mutual
def chkS : St → Stmt → Bool
  | .asg t e, .Assign [.Name y p] x _ => chkT fn N sc t (.Name y p) && chk G N fn sc e x
  | .asg t e, .Assign [.Tuple es k p] x _ => chkT fn N sc t (.Tuple es k p) && chk G N fn sc e x && notTup x
  | .aug o i e, .AugAssign (.Name y _) op x _ => decide (o.op = op) && decide (N[i]? = some y) && isTgt fn sc y && chk G N fn sc e x
  | .setL i k e, .Assign [.Subscript (.Name y _) z _] x _ => decide (N[i]? = some y) && isVis sc y && nameOk y && chk G N fn sc k z && chk G N fn sc e x
  | .setD i k e, .Assign [.Subscript (.Name y _) z _] x _ => decide (N[i]? = some y) && isVis sc y && nameOk y && chk G N fn sc k z && chk G N fn sc e x
  | .app i e, .Expr (.Call (.Attribute (.Name y _) m ap) [x] [] cp) _ => decide (m = "append") && decide (N[i]? = some y) && isVis sc y && nameOk y && (ap.endLine == cp.line) && chk G N fn sc e x
  | .ext i e, .Expr (.Call (.Attribute (.Name y _) m ap) [x] [] cp) _ => decide (m = "extend") && decide (N[i]? = some y) && isVis sc y && nameOk y && (ap.endLine == cp.line) && fre e && chk G N fn sc e x
  | .pop j i, .Assign [.Name z _] (.Call (.Attribute (.Name y _) m ap) [] [] cp) _ => decide (m = "pop") && decide (N[i]? = some y) && isVis sc y && nameOk y && (ap.endLine == cp.line) && decide (N[j]? = some z) && isTgt fn sc z
  | .ite t a b, .If x xs ys _ => noIte t && chk G N fn sc t x && chkSs a xs && chkSs b ys
  | .for_ t it b _, .For tg iter xs [] _ => chkT fn N sc t tg && chki G N fn sc it iter && chkSs b xs
  | .wh t b _, .While x xs [] _ => noIte t && chk G N fn sc t x && chkSs b xs
  | .ret e, .Return (some x) _ => chk G N fn sc e x
  | .retN, .Return none _ => true
  | .brk, .Break _ => true
  | .cnt, .Continue _ => true
  | .pas, .Pass _ => true
  | _, _ => false
def chkSs : Sts → List Stmt → Bool
  | .nil, [] => true
  | .cons s r, x :: xs => chkS s x && chkSs r xs
  | _, _ => false
end
end

structure GoodS (G : Gx) (c : Cc) (Φ : Fs) (X : Cx) (N : List Str) (fn : Str → Bool) (sc : Scope) : Prop where
  good : Good G c Φ X N fn sc
  pass : PassesOwn (model X.prog X.w) X.A X.env X.xe
section
variable {G : Gx} {c : Cc} {Φ : Fs} {X : Cx} {N : List Str} {fn : Str → Bool} {sc : Scope}
theorem rd_asgG {e : Expr} {Se : List Nat} {fe : Bool} {ve : Gm → Option D} {t : Tg} {E : Ends} {σ : Sl} {H : Hp} (h : tSd c (fun Γ => (ve Γ).bind fun d => (t.put d (unown Se Γ)).map .nx) E σ H) : tAsg (tE c Se fe ve) (tGt c t) E σ H := by
  obtain ⟨F, H0, A, Γ, r, S, hf, q⟩ := h
  obtain ⟨d, e1, hf⟩ := bind_ok hf
  obtain ⟨Γ', e2, hf⟩ := map_ok hf
  subst hf
  refine ⟨F, H0, A, Γ, d, S, e1, fun v H' x r => ⟨F, H0, _, _, d, Γ', (S.grow x).unown Se, r.1, e2, fun σ' S' so => ?_⟩⟩
  exact q _ _ _ S'
theorem snd_asgN (g : Good G c Φ X N fn sc) {e : Ex} {x : Expr} {i : Nat} {y : Str} {py pos : Pos} (h : chk G N fn sc e x = true) (hN : N[i]? = some y) (ht : isTgt fn sc y = true) :
    PS X (.Assign [.Name y py] x pos) (tSd c (evAsg (.nm i) (fre e) (esc e) (ev G Φ e))) := by
  have A := snd_e e x g h
  obtain ⟨t1, t2⟩ := g.tgt ht
  have fls : swapsWith x (some (.Name y py)) pos.line X.env = pure false → PS X (.Assign [.Name y py] x pos) (tSd c (evAsg (.nm i) (fre e) (esc e) (ev G Φ e))) := fun hs =>
    ps_imp (ps_set (g.n ▸ g.nd) (g.at_ hN) t1 A.pe hs t2) fun E σ H q => rd_asgN q
  by_cases hc : isComp x = true
  · have tl : ∀ {b : Bool} {sco : Scope} {p : Pos}, (X.env.blockKind == .function && X.env.kindOf y == some .local && py.line == p.line && !(sco.names.any fun (n, k) => n == y && (k == .local || k == .cell))) = true → X.env.scope.names.lookup y = some .local := fun h => by
      simp only [Bool.and_eq_true, beq_iff_eq] at h
      exact h.1.1.2
    cases x with
    | ListComp elt gens scope p =>
      cases hb : (X.env.blockKind == .function && X.env.kindOf y == some .local && py.line == p.line && !(scope.names.any fun (n, k) => n == y && (k == .local || k == .cell))) with
      | false => exact fls (by rw [← hb]; rfl)
      | true =>
        have hsw : ∀ gs, swapsWith (.ListComp elt gs scope p) (some (.Name y py)) pos.line X.env = pure true := fun gs => by rw [← hb]; rfl
        have hyl := tl (b := true) hb
        cases e with
        | comp elt' t it cnd vs =>
          match gens, h with
          | [⟨tg, iter, ifs, z⟩], h =>
            simp only [chk, Bool.and_eq_true, decide_eq_true_eq] at h
            obtain ⟨⟨⟨⟨⟨⟨⟨rfl, h1⟩, h2⟩, h3⟩, h4⟩, h5⟩, h6⟩, h7⟩ := h
            have I := snd_i it iter tg g h4
            have P := ps_setLc (pos := p) (spos := pos) (py := py) (wi := tIt c (esci it) (evi G Φ it)) (own := ownOf N vs) g.calm (g.n ▸ g.nd) (g.at_ hN) hyl (hsw _) I.1 (by rw [g.n, g.sc]; exact blkOk_by h2) (fun s H C cl fp => snd_tg (g.blk scope s H C cl fp) h5) (fun s H C cl fp => snd_c cnd ifs (g.blk scope s H C cl fp) h6)
              (fun s H C cl fp => (snd_e elt' elt (g.blk scope s H C cl fp) h7).pe) (I.2 _)
            rw [h1] at P
            exact ps_imp P fun E σ H q => by
              have q' := rd_asgN q
              exact de_lcR (fun _ _ _ z => z) (sub_of h3) q'
          | [], h => simp [chk] at h
          | _ :: _ :: _, h => simp [chk] at h
        | comp2 elt' t it cnd t1 it1 cnd1 vs vs1 =>
          match gens, h with
          | [⟨tg, iter, ifs, z⟩, ⟨tg1, iter1, ifs1, z1⟩], h =>
            simp only [chk, Bool.and_eq_true, decide_eq_true_eq] at h
            obtain ⟨⟨⟨⟨⟨⟨⟨⟨⟨⟨⟨⟨⟨rfl, rfl⟩, h1⟩, h2⟩, h3⟩, h3'⟩, h3''⟩, h4⟩, h5⟩, h6⟩, h8⟩, h9⟩, h10⟩, h7⟩ := h
            have I := snd_i it iter tg g h4
            have P := ps_setLc2 (pos := p) (spos := pos) (py := py) (wi := tIt c (esci it) (evi G Φ it)) (wi1 := tIt c (esci it1) (evi G Φ it1)) (own := ownOf N vs) (vs1 := vs1) g.calm (g.n ▸ g.nd) (g.at_ hN) hyl (hsw _) I.1 (by rw [g.n, g.sc]; exact blkOk_by h2) (by rw [h1]; exact sub_of h3') (fun s H C cl fp => snd_tg (g.blk scope s H C cl fp) h5)
              (fun s H C cl fp => snd_c cnd ifs (g.blk scope s H C cl fp) h6) (fun s H C cl fp => (snd_i it1 iter1 tg1 (g.blk scope s H C cl fp) h8).1) (fun s H C cl fp => snd_tg (g.blk scope s H C cl fp) h9) (fun s H C cl fp => snd_c cnd1 ifs1 (g.blk scope s H C cl fp) h10)
              (fun s H C cl fp => (snd_e elt' elt (g.blk scope s H C cl fp) h7).pe) (I.2 _) (snd_i it1 iter1 tg1 (g.blk scope X.s_0 X.H_0 0 [] []) h8).2
            rw [h1] at P
            exact ps_imp P fun E σ H q => by
              have q' := rd_asgN q
              exact de_lc2R (fun _ _ _ z => z) (fun _ _ _ z => z) (sub_of h3) (sub_of h3'') q'
          | [], h => simp [chk] at h
          | [_], h => simp [chk] at h
          | _ :: _ :: _ :: _, h => simp [chk] at h
        | _ => simp [chk] at h
    | DictComp kx vx gens scope p =>
      cases hb : (X.env.blockKind == .function && X.env.kindOf y == some .local && py.line == p.line && !(scope.names.any fun (n, k) => n == y && (k == .local || k == .cell))) with
      | false => exact fls (by rw [← hb]; rfl)
      | true =>
        have hsw : ∀ gs, swapsWith (.DictComp kx vx gs scope p) (some (.Name y py)) pos.line X.env = pure true := fun gs => by rw [← hb]; rfl
        have hyl := tl (b := true) hb
        cases e with
        | dcomp kd k v t it cnd vs =>
          match gens, h with
          | [⟨tg, iter, ifs, z⟩], h =>
            simp only [chk, Bool.and_eq_true, decide_eq_true_eq] at h
            obtain ⟨⟨⟨⟨⟨⟨⟨⟨rfl, h1⟩, h2⟩, h3⟩, h4⟩, h5⟩, h6⟩, h7⟩, h8⟩ := h
            have I := snd_i it iter tg g h4
            have P := ps_setDcG (kd := kd) (pos := p) (spos := pos) (py := py) (wi := tIt c (esci it) (evi G Φ it)) (own := ownOf N vs) (by have := g.hu; omega) g.calm (g.n ▸ g.nd) (g.at_ hN) hyl (hsw _) I.1 (by rw [g.n, g.sc]; exact blkOk_by h2) (fun s H C cl fp => snd_tg (g.blk scope s H C cl fp) h5) (fun s H C cl fp => snd_c cnd ifs (g.blk scope s H C cl fp) h6)
              (fun s H C cl fp => (snd_e k kx (g.blk scope s H C cl fp) h7).pe) (fun s H C cl fp => (snd_e v vx (g.blk scope s H C cl fp) h8).pe) (I.2 _)
            rw [h1] at P
            exact ps_imp P fun E σ H q => by
              have q' := rd_asgN q
              exact de_dcR (fun _ _ _ z => z) (sub_of h3) q'
          | [], h => simp [chk] at h
          | _ :: _ :: _, h => simp [chk] at h
        | _ => simp [chk] at h
    | SetComp _ _ _ _ => cases e <;> simp [chk] at h
    | _ => cases hc
  · exact fls (head_sw (by simpa using hc) _ _ _)
theorem snd_asgT (g : Good G c Φ X N fn sc) {e : Ex} {x : Expr} {t : Tg} {es : List Expr} {k : _} {py pos : Pos} (h : chk G N fn sc e x = true) (ht : chkT fn N sc t (.Tuple es k py) = true) (hx : notTup x = true) :
    PS X (.Assign [.Tuple es k py] x pos) (tSd c (evAsg t (fre e) (esc e) (ev G Φ e))) := by
  have A := snd_e e x g h
  cases t with
  | nm i => simp [chkT] at ht
  | tp is =>
    refine ps_imp (ps_asg A.pe (snd_tg g ht) (by cases x <;> rfl) (by cases x <;> first | rfl | cases hx) rfl) fun E σ H q => rd_asgG (e := x) q
mutual
theorem snd_s (g : GoodS G c Φ X N fn sc) : ∀ (s : St) (x : Stmt), chkS G N fn sc s x = true → PS X x (tSd c (evS G Φ s))
  | .asg t e, x, h => by
    cases x with
    | Assign ts v p =>
      match ts, h with
      | [tg], h =>
        cases tg with
        | Name y py =>
          simp only [chkS, Bool.and_eq_true] at h
          cases t with
          | nm i =>
            simp only [chkT, Bool.and_eq_true, decide_eq_true_eq] at h
            exact snd_asgN g.good h.2 h.1.1 h.1.2
          | tp is => simp [chkT] at h
        | Tuple es k py =>
          simp only [chkS, Bool.and_eq_true] at h
          exact snd_asgT g.good h.1.2 h.1.1 h.2
        | _ => simp [chkS] at h
      | [], h => exact absurd (show false = true from h) Bool.false_ne_true
      | hd :: _ :: _, h => cases hd <;> first | exact absurd (show false = true from h) Bool.false_ne_true | (rename_i o _ _; cases o <;> exact absurd (show false = true from h) Bool.false_ne_true)
    | _ => simp [chkS] at h
  | .aug o i e, x, h => by
    cases x with
    | AugAssign tg op v p =>
      cases tg with
      | Name y py =>
        simp only [chkS, Bool.and_eq_true, decide_eq_true_eq] at h
        obtain ⟨⟨⟨rfl, h2⟩, h3⟩, h4⟩ := h
        obtain ⟨t1, t2⟩ := g.good.tgt h3
        exact ds_aug (g.good.n ▸ g.good.nd) (g.good.at_ h2) t1 t2 (snd_e e v g.good h4).pe
      | _ => simp [chkS] at h
    | _ => simp [chkS] at h
  | .setL i k e, x, h => by
    cases x with
    | Assign ts v p =>
      match ts, h with
      | [t], h =>
        cases t with
        | Subscript o z tp =>
          cases o with
          | Name y py =>
            simp only [chkS, Bool.and_eq_true, decide_eq_true_eq] at h
            obtain ⟨⟨⟨⟨h1, h2⟩, h3⟩, h4⟩, h5⟩ := h
            have K := snd_e k z g.good h4
            have A := snd_e e v g.good h5
            exact ds_setL (g.good.at_ h1) (g.good.vis h2) (nameOk_of h3).1 (nameOk_of h3).2 A.pe K.pe K.hd
          | _ => simp [chkS] at h
        | _ => simp [chkS] at h
      | [], h => exact absurd (show false = true from h) Bool.false_ne_true
      | hd :: _ :: _, h => cases hd <;> first | exact absurd (show false = true from h) Bool.false_ne_true | (rename_i o _ _; cases o <;> exact absurd (show false = true from h) Bool.false_ne_true)
    | _ => simp [chkS] at h
  | .setD i k e, x, h => by
    cases x with
    | Assign ts v p =>
      match ts, h with
      | [t], h =>
        cases t with
        | Subscript o z tp =>
          cases o with
          | Name y py =>
            simp only [chkS, Bool.and_eq_true, decide_eq_true_eq] at h
            obtain ⟨⟨⟨⟨h1, h2⟩, h3⟩, h4⟩, h5⟩ := h
            have K := snd_e k z g.good h4
            have A := snd_e e v g.good h5
            exact ds_setD (by have := g.good.hu; omega) (g.good.at_ h1) (g.good.vis h2) (nameOk_of h3).1 (nameOk_of h3).2 A.pe K.pe
          | _ => simp [chkS] at h
        | _ => simp [chkS] at h
      | [], h => exact absurd (show false = true from h) Bool.false_ne_true
      | hd :: _ :: _, h => cases hd <;> first | exact absurd (show false = true from h) Bool.false_ne_true | (rename_i o _ _; cases o <;> exact absurd (show false = true from h) Bool.false_ne_true)
    | _ => simp [chkS] at h
  | .app i e, x, h => by
    cases x with
    | Expr v p =>
      cases v with
      | Call f args kws cp =>
        cases f with
        | Attribute o m ap =>
          cases o with
          | Name y py =>
            match args, kws, h with
            | [z], [], h =>
              simp only [chkS, Bool.and_eq_true, decide_eq_true_eq] at h
              obtain ⟨⟨⟨⟨⟨rfl, h1⟩, h2⟩, h3⟩, h4⟩, h5⟩ := h
              have A := snd_e e z g.good h5
              exact ds_app (g.good.at_ h1) (g.good.vis h2) (nameOk_of h3).1 (nameOk_of h3).2 A.pe A.hd h4
            | [], _, h => exact absurd (show false = true from h) Bool.false_ne_true
            | _ :: _ :: _, _, h => exact absurd (show false = true from h) Bool.false_ne_true
            | [_], _ :: _, h => exact absurd (show false = true from h) Bool.false_ne_true
          | _ => simp [chkS] at h
        | _ => simp [chkS] at h
      | _ => simp [chkS] at h
    | _ => simp [chkS] at h
  | .ext i e, x, h => by
    cases x with
    | Expr v p =>
      cases v with
      | Call f args kws cp =>
        cases f with
        | Attribute o m ap =>
          cases o with
          | Name y py =>
            match args, kws, h with
            | [z], [], h =>
              simp only [chkS, Bool.and_eq_true, decide_eq_true_eq] at h
              obtain ⟨⟨⟨⟨⟨⟨rfl, h1⟩, h2⟩, h3⟩, h4⟩, h6⟩, h5⟩ := h
              have A := snd_e e z g.good h5
              have P := A.pe
              rw [h6] at P
              exact ds_ext (g.good.at_ h1) (g.good.vis h2) (nameOk_of h3).1 (nameOk_of h3).2 P A.hd h4
            | [], _, h => exact absurd (show false = true from h) Bool.false_ne_true
            | _ :: _ :: _, _, h => exact absurd (show false = true from h) Bool.false_ne_true
            | [_], _ :: _, h => exact absurd (show false = true from h) Bool.false_ne_true
          | _ => simp [chkS] at h
        | _ => simp [chkS] at h
      | _ => simp [chkS] at h
    | _ => simp [chkS] at h
  | .pop j i, x, h => by
    cases x with
    | Assign ts v p =>
      match ts, h with
      | [tg], h =>
        cases tg with
        | Name z pz =>
          cases v with
          | Call f args kws cp =>
            cases f with
            | Attribute o m ap =>
              cases o with
              | Name y py =>
                match args, kws, h with
                | [], [], h =>
                  simp only [chkS, Bool.and_eq_true, decide_eq_true_eq] at h
                  obtain ⟨⟨⟨⟨⟨⟨rfl, h1⟩, h2⟩, h3⟩, h4⟩, h5⟩, h6⟩ := h
                  obtain ⟨t1, t2⟩ := g.good.tgt h6
                  exact ds_pop (g.good.n ▸ g.good.nd) (g.good.at_ h5) t1 t2 (g.good.at_ h1) (g.good.vis h2) (nameOk_of h3).1 (nameOk_of h3).2 h4
                | _ :: _, _, h => exact absurd (show false = true from h) Bool.false_ne_true
                | [], _ :: _, h => exact absurd (show false = true from h) Bool.false_ne_true
              | _ => simp [chkS] at h
            | _ => simp [chkS] at h
          | _ => simp [chkS] at h
        | _ => simp [chkS] at h
      | [], h => exact absurd (show false = true from h) Bool.false_ne_true
      | hd :: _ :: _, h => cases hd <;> first | exact absurd (show false = true from h) Bool.false_ne_true | (rename_i o _ _; cases o <;> exact absurd (show false = true from h) Bool.false_ne_true)
    | _ => simp [chkS] at h
  | .ite t a b, x, h => by
    cases x with
    | If y xs ys p =>
      simp only [chkS, Bool.and_eq_true] at h
      obtain ⟨⟨⟨h1, h2⟩, h3⟩, h4⟩ := h
      exact ds_if ((snd_e t y g.good h2).pt h1) (snd_ss g a xs h3) (snd_ss g b ys h4)
    | _ => simp [chkS] at h
  | .for_ t it b kl, x, h => by
    cases x with
    | For tg iter xs ys p =>
      match ys, h with
      | [], h =>
        simp only [chkS, Bool.and_eq_true] at h
        obtain ⟨⟨h1, h2⟩, h3⟩ := h
        have I := snd_i it iter tg g.good h2
        exact ps_imp (ps_for g.pass g.good.calm I.1 (snd_tg g.good h1) (snd_ss g b xs h3) (I.2 _)) fun E σ H q => rd_for (fun _ _ _ z => z) q
      | _ :: _, h => exact absurd (show false = true from h) Bool.false_ne_true
    | _ => simp [chkS] at h
  | .wh t b kl, x, h => by
    cases x with
    | While y xs ys p =>
      match ys, h with
      | [], h =>
        simp only [chkS, Bool.and_eq_true] at h
        obtain ⟨⟨h1, h2⟩, h3⟩ := h
        exact ps_imp (ps_while g.pass ((snd_e t y g.good h2).pt h1) (snd_ss g b xs h3)) fun E σ H q => rd_while q
      | _ :: _, h => exact absurd (show false = true from h) Bool.false_ne_true
    | _ => simp [chkS] at h
  | .ret e, x, h => by
    cases x with
    | Return o p =>
      cases o with
      | some y =>
        simp only [chkS] at h
        exact ds_ret (snd_e e y g.good h).pe
      | none => simp [chkS] at h
    | _ => simp [chkS] at h
  | .retN, x, h => by
    cases x with
    | Return o p =>
      cases o with
      | some y => simp [chkS] at h
      | none => exact ds_retN
    | _ => simp [chkS] at h
  | .brk, x, h => by
    cases x with
    | Break p => exact ds_brk
    | _ => simp [chkS] at h
  | .cnt, x, h => by
    cases x with
    | Continue p => exact ds_cnt
    | _ => simp [chkS] at h
  | .pas, x, h => by
    cases x with
    | Pass p => exact ds_pas
    | _ => simp [chkS] at h
theorem snd_ss (g : GoodS G c Φ X N fn sc) : ∀ (s : Sts) (x : List Stmt), chkSs G N fn sc s x = true → PSs X x (tSd c (evSs G Φ s))
  | .nil, x, h => by
    cases x with
    | nil => exact dss_nil
    | cons _ _ => simp [chkSs] at h
  | .cons s r, x, h => by
    cases x with
    | nil => simp [chkSs] at h
    | cons y ys =>
      simp only [chkSs, Bool.and_eq_true] at h
      exact dss_cons (snd_s g s y h.1) (snd_ss g r ys h.2)
end
end
end Dl

set_option Elab.async false
set_option linter.all false
set_option maxRecDepth 100000
set_option maxHeartbeats 8000000
/-! Dl16: a whole program as terms; what its defs hand back. -/
namespace Dl
open PySem PySem.Spec PyProof.Rows L2

structure Fd where
  name : Str
  n : Nat
  N : List Str
  body : Sts
def runF : Fw → Option D
  | .nx _ => some .none
  | .rt d => some d
  | _ => none
def startG (m : Nat) (ds : List D) : Gm := ds.map (fun d => some (false, d)) ++ List.replicate (m - ds.length) none
/-- what the defs hand back, k calls deep -/
def den (G : Gx) (P : List Fd) : Nat → Fs
  | 0 => fun _ _ => none
  | k + 1 => fun f ds => (P[f]?).bind fun fd => if ds.length = fd.n then (evSs G (den G P k) fd.body (startG fd.N.length ds)).bind runF else none
def isLc (sc : Scope) (x : Str) : Bool := match sc.names.lookup x with
  | some .local => true
  | some .cell => true
  | _ => false
def isFn : ScopeKind → Bool
  | .function => true
  | _ => false
def isFree : NameKind → Bool
  | .free => true
  | _ => false
def chkF (G : Gx) (fd : Fd) (body : List Stmt) (sc : Scope) : Bool :=
  isFn sc.kind && !sc.isCoroutine && !sc.isGenerator && decide fd.N.Nodup && decide (fd.n ≤ fd.N.length) && (fd.N.take fd.n).all (isLc sc) && sc.names.all (fun y => !isFree y.2) && chkSs G fd.N (fun _ => true) sc fd.body body
section
variable {c : Cc} {G : Gx} {P : Program} {w : World} {K : PySem.W.Frag} {mg : Str → Option Value} {base : Heap} {Pf : List Fd}
theorem chkF_scope {fd : Fd} {body : List Stmt} {sc : Scope} (h : chkF G fd body sc = true) : FnScope fd.N (fd.N.take fd.n) sc ∧ chkSs G fd.N (fun _ => true) sc fd.body body = true ∧ (fd.N.take fd.n).length = fd.n := by
  unfold chkF at h
  simp only [Bool.and_eq_true, Bool.not_eq_true', decide_eq_true_eq] at h
  obtain ⟨⟨⟨⟨⟨⟨⟨h1, h2⟩, h3⟩, h4⟩, h5⟩, h6⟩, h7⟩, h8⟩ := h
  have hl : (fd.N.take fd.n).length = fd.n := by rw [List.length_take]; omega
  refine ⟨⟨?_, h2, h3, h4, by rw [hl], fun x hx => ?_, fun y hy e => ?_⟩, h8, hl⟩
  · cases e : sc.kind <;> first | rfl | (rw [e] at h1; cases h1)
  · have q := List.all_eq_true.mp h6 x hx
    unfold isLc at q
    split at q
    · exact .inl (by assumption)
    · exact .inr (by assumption)
    · cases q
  · have q := List.all_eq_true.mp h7 y hy
    rw [e] at q
    cases q
theorem start_ok {F : Addr → Prop} {H : Hp} {vs : List V} {ds : List D} {N : List Str} (t : Trk H F) (tb : ∀ p ∈ c.tabs, GxR.TabG H p) (r : RepL c.K H F vs ds) : StR c F H H (fun _ => none) (L2.start N vs) (startG N.length ds) := by
  have hl := r.length
  refine ⟨?_, fun i j a h => (by cases h), fun i a h => (by cases h), t, fun i f d h => ?_, fun i a h => (by cases h), .refl H, tb⟩
  · unfold L2.start startG
    simp [hl]
  · unfold startG at h
    by_cases hi : i < ds.length
    · rw [List.getElem?_append_left (by simpa using hi), List.getElem?_map] at h
      obtain ⟨d', e1, e2⟩ := Option.map_eq_some_iff.mp h
      cases e2
      rw [if_neg Bool.false_ne_true]
      obtain ⟨v, h1, h2⟩ := r.get e1
      refine ⟨rfl, v, ?_, h2.move (.weak fun a z => z.elim id fun ⟨i, z⟩ => by cases z)⟩
      unfold L2.start
      rw [List.getElem?_append_left (by simp; omega), List.getElem?_map, h1]
      rfl
    · rw [List.getElem?_append_right (by simp; omega)] at h
      rw [List.getElem?_replicate] at h
      split at h <;> cases h
/-- what the head tells of a def -/
structure DefOk (K : PySem.W.Frag) (mg : Str → Option Value) (G : Gx) (fd : Fd) (fa : Addr) (fdd : FuncData) (body : List Stmt) (sc : Scope) : Prop where
  ex : ∃ (qual : Str) (args : Arguments), FunD K fd.name qual args body sc [] [] fa fdd
  chk : chkF G fd body sc = true
  mg : mg fd.name = some (.ref fa)
  bs : Binds K fdd (fd.N.take fd.n) []
theorem den_ok (hK : K = c.K) (hf : ∀ (i : Nat) (fd : Fd), Pf[i]? = some fd → ∃ fa fdd body sc, DefOk K mg G fd fa fdd body sc) (hG : G.fns = Pf.map fun fd => (fd.name, fd.n)) (hc : ∀ p ∈ G.cons, ∃ t, mg p.1 = some (.str p.2 t)) (hb : ∀ x ∈ G.blt, mg x = none) :
    ∀ (k i : Nat) (fd : Fd), Pf[i]? = some fd → ∀ (fa : Addr) (fdd : FuncData) (body : List Stmt) (sc : Scope), DefOk K mg G fd fa fdd body sc → FnOk P w K mg base CX0 k fa fdd (fd.N.take fd.n) (spD c fd.n (den G Pf k i))
  | 0, i, fd, h, fa, fdd, body, sc, d => by
    refine ⟨fun vs H Q E ⟨F, ds, d', _, _, _, _, hd, _⟩ => (by cases hd), fun A outer s H args us vs Q E _ _ _ _ ⟨F, ds, d', _, _, _, _, hd, _⟩ => (by cases hd)⟩
  | k + 1, i, fd, h, fa, fdd, body, sc, d => by
    obtain ⟨qual, args, fun_⟩ := d.ex
    obtain ⟨S, ck, hl⟩ := chkF_scope d.chk
    refine fun_.ok S (fun vs H Q E h => by rw [spD_len h, hl]) fun cdv A outer s H vs Q E hr ⟨F, ds, d', t, tb, r, hn, hd, q⟩ => ?_
    have good : Good G c (den G Pf k) (cxOf CX0 P w K mg base fd.N qual sc fa cdv A outer s H E).nox fd.N (fun _ => true) sc := {
      k := hK
      n := rfl
      nd := S.nd
      sc := rfl
      fn := fun _ _ => rfl
      calm := rfl
      hu := by
        have := hr.un
        show (A.deeper _).units + 100 < cLine
        omega
      cons := hc
      blt := hb
      fns := fun j x n hj => by
        rw [hG, List.getElem?_map] at hj
        obtain ⟨fd2, e1, e2⟩ := Option.map_eq_some_iff.mp hj
        cases e2
        obtain ⟨fa2, fdd2, body2, sc2, d2⟩ := hf j fd2 e1
        obtain ⟨_, _, fun2⟩ := d2.ex
        exact ⟨k, fa2, fdd2, _, den_ok hK hf hG hc hb k j fd2 e1 fa2 fdd2 body2 sc2 d2, hr, d2.mg, fun2.kp, d2.bs⟩ }
    refine ⟨_, PSs.nox (snd_ss ⟨good, PassesOwn.never⟩ fd.body body ck), ?_⟩
    have hd : (den G Pf (k + 1) i ds) = some d' := hd
    unfold den at hd
    rw [h] at hd
    have hd : (if ds.length = fd.n then (evSs G (den G Pf k) fd.body (startG fd.N.length ds)).bind runF else none) = some d' := hd
    rw [if_pos hn] at hd
    obtain ⟨fw, e1, e2⟩ := bind_ok hd
    refine ⟨F, H, _, _, fw, start_ok t tb r, e1, ?_⟩
    cases fw with
    | nx Γ =>
      cases e2
      exact fun σ H' A' S' => q _ _ S'.ext .non
    | rt d => 
      cases e2
      exact fun v H' x' r' => q v H' x' r'
    | bk _ => cases e2
    | ct _ => cases e2
end
end Dl

set_option Elab.async false
set_option linter.all false
set_option maxRecDepth 100000
set_option maxHeartbeats 8000000
/-! Dl17: from the head's facts to the law. -/
namespace Dl
open PySem PySem.Spec PyProof.Rows L2

def factsOf (G : Gx) (Pf : List Fd) : List He.Fa := (Pf.map fun fd => .glo fd.name) ++ (G.blt.map .free ++ G.cons.map fun p => .str p.1 p.2)
def atOk (p q : Str × Option Str) : Bool := decide (p = q)
def chkD (G : Gx) (fd : Fd) (d : He.DefD) : Bool := atOk d.at_ (fd.name, none) && decide (d.name = fd.name) && d.dfl.isEmpty && d.kwd.isEmpty && chkF G fd d.body d.scope
def chkL (G : Gx) : List Fd → List He.DefD → Bool
  | [], [] => true
  | fd :: Pf, d :: ds => chkD G fd d && chkL G Pf ds
  | _, _ => false
def chkAll (G : Gx) (Pf : List Fd) (ds : List He.DefD) : Bool := chkL G Pf ds && decide (G.fns = Pf.map fun fd => (fd.name, fd.n))
def BindD (fd : Fd) (d : He.DefD) : Prop := ∀ (kV doc pm : Value) (an : Option Addr) (cdv ct : Value) (us : List Value), us.length = (fd.N.take fd.n).length → bindArgs (PySem.W.fnOf d.name d.qual d.params d.body d.scope .none kV doc pm an cdv ct) ⟨us, []⟩ = pure ((fd.N.take fd.n).zip us)
def BindAll : List Fd → List He.DefD → Prop
  | fd :: Pf, d :: ds => BindD fd d ∧ BindAll Pf ds
  | _, _ => True
theorem chkL_at {G : Gx} : ∀ {Pf : List Fd} {ds : List He.DefD} {i : Nat} {fd : Fd}, chkL G Pf ds = true → BindAll Pf ds → Pf[i]? = some fd → ∃ d, ds[i]? = some d ∧ chkD G fd d = true ∧ BindD fd d
  | [], _, i, fd, _, _, h => by simp at h
  | _ :: _, [], _, _, c, _, _ => by cases c
  | fd :: Pf, d :: ds, 0, fd', c, b, h => by
    have e : fd = fd' := Option.some.inj h
    subst e
    unfold chkL at c
    simp only [Bool.and_eq_true] at c
    exact ⟨d, rfl, c.1, b.1⟩
  | fd :: Pf, d :: ds, i + 1, fd', c, b, h => by
    unfold chkL at c
    simp only [Bool.and_eq_true] at c
    obtain ⟨d', h1, h2⟩ := chkL_at (i := i) c.2 b.2 (by simpa using h)
    exact ⟨d', by simpa using h1, h2⟩
theorem law_end {G : Gx} {Pf : List Fd} {ds : List He.DefD} {P : Program} {w : World} {K : PySem.W.Frag} {h : Heap} {mg : Str → Option Value} {f : Addr} {k : Nat} (ca : chkAll G Pf ds = true) (bd : BindAll Pf ds) (X : K.In h) (Gn : h.Ns mainGlobals mg) (hmg : mg ("law" : Str) = some (.ref f)) (c : He.SaysD (factsOf G Pf) ds K)
    {i : Nat} {fd : Fd} (hi : Pf[i]? = some fd) (hname : fd.name = "law") (hn : fd.n = 1) (hps : fd.N.take fd.n = [("script" : Str)]) (T : ∀ ns : List Int, ns.length ≤ 63 → den G Pf k i [.list (ns.map .int)] = some (.bool true)) :
    ∃ (K : PySem.W.Frag) (fdd : FuncData) (sp : Sp), K.In h ∧ (∀ (s : Shared) (u : Value), BindsTo s fdd ⟨[u], []⟩ [("script", u)]) ∧
        (∀ (H : Hp) (a : Addr) (ns : List Int), ns.length ≤ 63 → Only H → SqL K H a (ns.map V.int) → sp [.ref a] H (fun v _ => v = .bl true) fun _ _ _ => False) ∧
        ∀ base : Heap, K.In base → base.Ns mainGlobals mg → FnOk P w K mg base CX0 k f fdd ["script"] sp := by
  unfold chkAll at ca
  simp only [Bool.and_eq_true, decide_eq_true_eq] at ca
  have fact : ∀ z ∈ factsOf G Pf, z.ok K = true := fun z hz => by
    obtain ⟨j, hj⟩ := List.getElem?_of_mem hz
    exact c.fact j hj
  have all : ∀ (i : Nat) (fd : Fd), Pf[i]? = some fd → ∃ fa fdd body sc, DefOk K mg G fd fa fdd body sc ∧ ∃ (qual : Str) (args : Arguments), FunD K fd.name qual args body sc [] [] fa fdd ∧ (∀ (kV doc pm : Value) (an : Option Addr) (cdv ct : Value) (us : List Value), us.length = (fd.N.take fd.n).length → bindArgs (PySem.W.fnOf fd.name qual args body sc .none kV doc pm an cdv ct) ⟨us, []⟩ = pure ((fd.N.take fd.n).zip us)) := fun i fd hi => by
    obtain ⟨d, h1, h2, h3⟩ := chkL_at ca.1 bd hi
    obtain ⟨fdd, FD⟩ := c.def_ i h1
    unfold chkD at h2
    simp only [Bool.and_eq_true, decide_eq_true_eq, List.isEmpty_iff] at h2
    obtain ⟨⟨⟨⟨c1, c2⟩, c3⟩, c4⟩, c5⟩ := h2
    have e1 : d.dvs K = [] := by unfold He.DefD.dvs; rw [c3]; rfl
    have e2 : d.kws K = [] := by unfold He.DefD.kws; rw [c4]; rfl
    have e3 : He.fAd K d.at_ = He.ga K fd.name := by rw [of_decide_eq_true c1]; rfl
    rw [e1, e2, e3, c2] at FD
    unfold BindD at h3
    rw [c2] at h3
    have bn := FD.bindsN (ps := fd.N.take fd.n) h3
    refine ⟨_, fdd, d.body, d.scope, ⟨⟨d.qual, d.params, FD⟩, c5, ?_, bn⟩, d.qual, d.params, FD, h3⟩
    exact He.glo_ok X Gn (fact (.glo fd.name) (List.mem_append_left _ (List.mem_map.mpr ⟨fd, List.mem_of_getElem? hi, rfl⟩)))
  obtain ⟨fa, fdd, body, sc, D, qual, args, FD, bi⟩ := all i fd hi
  have ef : fa = f := by
    have q := D.mg
    rw [hname, hmg] at q
    cases q
    rfl
  subst ef
  refine ⟨K, fdd, spD ⟨K, []⟩ fd.n (den G Pf k i), X, fun s u => ?_, fun H a ns hl _ hS => ?_, fun base _ _ => ?_⟩
  · have q := FD.bindsA (ps := fd.N.take fd.n) bi s [u] (by rw [hps]; rfl)
    rw [hps] at q
    exact q
  · have rl : ∀ ns : List Int, RepL K H (fun _ => False) (ns.map V.int) (ns.map .int) := fun ns => by
      induction ns with
      | nil => exact .nil
      | cons x xs ih => exact .cons (.int x) ih
    have r : Rep K H (fun _ => False) (.ref a) (.list (ns.map .int)) := by
      rcases hS with hS | hS
      · exact .lst id hS (rl ns)
      · exact .lstK (.inr hS) (rl ns)
    refine ⟨fun _ => False, [.list (ns.map .int)], .bool true, fun _ z => z.elim, (fun _ z => by cases z), .cons r .nil, (by rw [hn]; rfl), T ns hl, fun v H' _ rv => ?_⟩
    cases rv
    rfl
  · have q := den_ok (P := P) (w := w) (base := base) (c := ⟨K, []⟩) (G := G) (Pf := Pf) (mg := mg) rfl (fun i fd hi => by
      obtain ⟨fa, fdd, body, sc, D, _⟩ := all i fd hi
      exact ⟨fa, fdd, body, sc, D⟩) ca.2 (fun p hp => He.str_ok X Gn (fact (.str p.1 p.2) (List.mem_append_right _ (List.mem_append_right _ (List.mem_map.mpr ⟨p, hp, rfl⟩))))) (fun x hx => He.free_ok X Gn (fact (.free x) (List.mem_append_right _ (List.mem_append_left _ (List.mem_map.mpr ⟨x, hx, rfl⟩))))) k i fd hi fa fdd body sc D
    rw [hps] at q
    exact q
end Dl

set_option Elab.async false
set_option linter.all false
set_option maxRecDepth 100000
set_option maxHeartbeats 8000000
/-! Dl18: how the plain values of terms are read: loops, comprehensions, operators. -/
namespace Dl
open PySem
/-- what a loop's turn gives, over a state of one's own -/
inductive Lp (S : Type) where
  | nx (s : S)
  | bk (s : S)
  | rt (d : D)
def lp {α S : Type} (step : α → S → Lp S) : List α → S → Lp S
  | [], s => .nx s
  | x :: xs, s => match step x s with
    | .nx s' => lp step xs s'
    | .bk s' => .bk s'
    | .rt d => .rt d
def Lp.fw {S : Type} (mk : S → Gm) : Lp S → Fw
  | .nx s => .nx (mk s)
  | .bk s => .nx (mk s)
  | .rt d => .rt d
def Fit {S : Type} (mk : S → Gm) (kl : List Nat) : Fw → Lp S → Prop
  | .nx Γ, .nx s => killG kl Γ = mk s
  | .ct Γ, .nx s => killG kl Γ = mk s
  | .bk Γ, .bk s => killG kl Γ = mk s
  | .rt d, .rt e => d = e
  | _, _ => False
theorem evFor_lp {α S : Type} {t : Tg} {body : Gm → Option Fw} {kl : List Nat} (enc : α → D) (mk : S → Gm) (step : α → S → Lp S) (I : List α → S → Prop)
    (h : ∀ x xs s, I (x :: xs) s → ∃ Γ fw, t.put (enc x) (mk s) = some Γ ∧ body Γ = some fw ∧ Fit mk kl fw (step x s) ∧ ∀ s', step x s = .nx s' → I xs s') : ∀ (xs : List α) (s : S) (h0 : I xs s), evFor t body kl (xs.map enc) (mk s) = some ((lp step xs s).fw mk)
  | [], s, h0 => rfl
  | x :: xs, s, h0 => by
    obtain ⟨Γ, fw, e1, e, f, g⟩ := h x xs s h0
    rw [List.map_cons]
    unfold evFor lp
    rw [e1]
    show (body Γ).bind _ = _
    rw [e]
    show stepL kl _ fw = _
    cases e2 : step x s with
    | nx s' =>
      rw [e2] at f
      have r := evFor_lp enc mk step I h xs s' (g s' e2)
      cases fw <;> first | (cases f; done) | (have f' : killG kl _ = mk s' := f; simp only [stepL]; rw [f']; exact r)
    | bk s' =>
      rw [e2] at f
      cases fw <;> first | (cases f; done) | (have f' : killG kl _ = mk s' := f; simp only [stepL]; rw [f']; rfl)
    | rt d =>
      rw [e2] at f
      cases fw <;> first | (cases f; done) | (cases f; rfl)
/-- a loop that only looks: it goes on or hands back -/
theorem evFor_look {α : Type} {t : Tg} {body : Gm → Option Fw} {kl : List Nat} {Γ : Gm} (enc : α → D) (g : α → Option D) (xs : List α)
    (h : ∀ x ∈ xs, ∃ Γ1 fw, t.put (enc x) Γ = some Γ1 ∧ body Γ1 = some fw ∧ match g x with
      | none => (∃ Γ2, (fw = .nx Γ2 ∨ fw = .ct Γ2) ∧ killG kl Γ2 = Γ)
      | some d => fw = .rt d) : evFor t body kl (xs.map enc) Γ = some (match xs.findSome? g with
      | none => .nx Γ
      | some d => .rt d) := by
  induction xs with
  | nil => rfl
  | cons x xs ih =>
    obtain ⟨Γ1, fw, e1, e2, e3⟩ := h x (by simp)
    have ih := ih fun y hy => h y (by simp [hy])
    rw [List.map_cons, List.findSome?_cons]
    unfold evFor
    rw [e1]
    show (body Γ1).bind _ = _
    rw [e2]
    show stepL kl _ fw = _
    cases e4 : g x with
    | none =>
      rw [e4] at e3
      obtain ⟨Γ2, e5, e6⟩ := e3
      rcases e5 with rfl | rfl <;> (simp only [stepL]; rw [e6]; exact ih)
    | some d =>
      rw [e4] at e3
      cases (show fw = .rt d from e3)
      rfl
def wl {S : Type} (c : S → Bool) (step : S → Lp S) : Nat → S → Option (Lp S)
  | 0, _ => none
  | n + 1, s => if c s = true then (match step s with
    | .nx s' => wl c step n s'
    | .bk s' => some (.bk s')
    | .rt d => some (.rt d)) else some (.nx s)
theorem evWhile_wl {S : Type} {tt : Gm → Option Bool} {body : Gm → Option Fw} {kl : List Nat} (mk : S → Gm) (c : S → Bool) (step : S → Lp S) (I : S → Prop)
    (h : ∀ s, I s → tt (mk s) = some (c s) ∧ (c s = true → ∃ fw, body (mk s) = some fw ∧ Fit mk kl fw (step s) ∧ ∀ s', step s = .nx s' → I s')) : ∀ (n m : Nat) (s : S) (r : Lp S), I s → wl c step n s = some r → n ≤ m → evWhile tt body kl m (mk s) = some (r.fw mk)
  | 0, m, s, r, _, hw, _ => by cases hw
  | n + 1, 0, s, r, _, _, hm => by omega
  | n + 1, m + 1, s, r, hI, hw, hm => by
    obtain ⟨h1, h2⟩ := h s hI
    unfold evWhile
    rw [h1]
    unfold wl at hw
    cases hc : c s with
    | false =>
      rw [hc] at hw
      cases hw
      rfl
    | true =>
      rw [hc, if_pos rfl] at hw
      obtain ⟨fw, e, f, g⟩ := h2 hc
      refine Eq.trans (b := if true = true then (body (mk s)).bind (stepL kl (evWhile tt body kl m)) else some (Fw.nx (mk s))) rfl ?_
      rw [if_pos rfl, e]
      refine Eq.trans (b := stepL kl (evWhile tt body kl m) fw) rfl ?_
      cases e2 : step s with
      | nx s' =>
        rw [e2] at f hw
        have r := evWhile_wl mk c step I h n m s' r (g s' e2) hw (by omega)
        cases fw <;> first | (cases f; done) | (have f' : killG kl _ = mk s' := f; simp only [stepL]; rw [f']; exact r)
      | bk s' =>
        rw [e2] at f hw
        cases hw
        cases fw <;> first | (cases f; done) | (have f' : killG kl _ = mk s' := f; simp only [stepL]; rw [f']; rfl)
      | rt d =>
        rw [e2] at f hw
        cases hw
        cases fw <;> first | (cases f; done) | (cases f; rfl)
section
variable {G : Gx} {Pf : List Fd} {Φ : Fs}
theorem den_eq {k i : Nat} {ds : List D} {fd : Fd} (hk : 1 ≤ k) (h : Pf[i]? = some fd) (hn : ds.length = fd.n) : den G Pf k i ds = (evSs G (den G Pf (k - 1)) fd.body (startG fd.N.length ds)).bind runF := by
  cases k with
  | zero => omega
  | succ k =>
    have e : den G Pf (k + 1) i ds = (Pf[i]?).bind fun fd => if ds.length = fd.n then (evSs G (den G Pf k) fd.body (startG fd.N.length ds)).bind runF else none := rfl
    rw [e, h]
    show (if ds.length = fd.n then _ else none) = _
    rw [if_pos hn]
    rfl
theorem for_rng1 {t : Tg} {e : Ex} {b : Sts} {kl : List Nat} {Γ : Gm} {n : Nat} (he : ev G Φ e Γ = some (.int n)) (hn : n ≤ 16777216) : evS G Φ (.for_ t (.rng1 e) b kl) Γ = evFor t (evSs G Φ b) kl ((List.range n).map fun (i : Nat) => PyData.int i) (killG kl Γ) := by
  unfold evS evi
  have h1 : decide (-(2 ^ 62 : Int) ≤ (n : Int) ∧ (n : Int) ≤ 16777216) = true := decide_eq_true ⟨by omega, by omega⟩
  simp only [he, Option.bind_some, asI, h1, if_true, Int.toNat_natCast, esci, unown]
theorem for_seq {t : Tg} {e : Ex} {b : Sts} {kl : List Nat} {Γ : Gm} {d : D} {ds : List D} (he : ev G Φ e Γ = some d) (hd : dItems d = some ds) : evS G Φ (.for_ t (.seq e) b kl) Γ = evFor t (evSs G Φ b) kl ds (killG kl (unown (esc e) Γ)) := by
  unfold evS evi
  simp only [he, Option.bind_some, hd, esci]
theorem wh_eq {t : Ex} {b : Sts} {kl : List Nat} {Γ : Gm} : evS G Φ (.wh t b kl) Γ = evWhile (fun Γ => (ev G Φ t Γ).bind dTru) (evSs G Φ b) kl fuel (killG kl Γ) := by
  unfold evS
  rfl
end
theorem compL_map {α : Type} {step : D → Option (Option D)} (enc : α → D) (g : α → Option D) (xs : List α) (h : ∀ x ∈ xs, step (enc x) = some (g x)) : compL step (xs.map enc) = some (xs.filterMap g) := by
  induction xs with
  | nil => rfl
  | cons x xs ih =>
    rw [List.map_cons]
    unfold compL
    rw [h x (by simp), ih fun y hy => h y (by simp [hy])]
    simp only [Option.bind_some, Option.map_some, List.filterMap_cons]
    cases g x <;> rfl
theorem compL_fm {α : Type} {step : D → Option (Option D)} (enc : α → D) (p : α → Bool) (f : α → D) (xs : List α) (h : ∀ x ∈ xs, step (enc x) = some (if p x = true then some (f x) else none)) : compL step (xs.map enc) = some ((xs.filter p).map f) := by
  rw [compL_map enc (fun x => if p x = true then some (f x) else none) xs h]
  congr 1
  induction xs with
  | nil => rfl
  | cons x xs ih =>
    rw [List.filterMap_cons, List.filter_cons]
    have := ih fun y hy => h y (by simp [hy])
    by_cases hp : p x = true
    · simp only [hp, if_true, List.map_cons, this]
    · simp only [hp, if_false, this]
      simp [this]
theorem compL_m {α : Type} {step : D → Option (Option D)} (enc : α → D) (f : α → D) (xs : List α) (h : ∀ x ∈ xs, step (enc x) = some (some (f x))) : compL step (xs.map enc) = some (xs.map f) := by
  rw [compL_map enc (fun x => some (f x)) xs h]
  congr 1
  induction xs with
  | nil => rfl
  | cons x xs ih => rw [List.filterMap_cons, List.map_cons, ih fun y hy => h y (by simp [hy])]
theorem compF_map {α : Type} {step : D → Option (List D)} (enc : α → D) (g : α → List D) (xs : List α) (h : ∀ x ∈ xs, step (enc x) = some (g x)) : compF step (xs.map enc) = some (xs.flatMap g) := by
  induction xs with
  | nil => rfl
  | cons x xs ih =>
    rw [List.map_cons]
    unfold compF
    rw [h x (by simp), ih fun y hy => h y (by simp [hy])]
    simp
theorem beqD {α : Type} [BEq α] [LawfulBEq α] [DecidableEq α] (a b : α) : (a == b) = decide (a = b) := by
  rw [Bool.eq_iff_iff]
  simp
/-! ### operators at ints, truth values, texts -/
section
variable (i j : Int) (a b : Bool) (x y : Str)
@[simp] theorem dEq_ii : dEq (.int i) (.int j) = some (.bool (decide (i = j))) := by
  simp [dEq, eqOk, PyData.plain, PyData.depth, PyData.eqv, beqD]
@[simp] theorem dEq_bb : dEq (.bool a) (.bool b) = some (.bool (a == b)) := by
  simp [dEq, eqOk, PyData.plain, PyData.depth, PyData.eqv]
@[simp] theorem dEq_ss : dEq (.str x) (.str y) = some (.bool (decide (x = y))) := by
  simp [dEq, eqOk, PyData.plain, PyData.depth, PyData.eqv, beqD]
@[simp] theorem dNe_ii : dNe (.int i) (.int j) = some (.bool (decide (i ≠ j))) := by
  simp [dNe, eqOk, PyData.plain, PyData.depth, PyData.eqv, beqD]
@[simp] theorem dNe_bb : dNe (.bool a) (.bool b) = some (.bool (a != b)) := by
  simp [dNe, eqOk, PyData.plain, PyData.depth, PyData.eqv, bne]
@[simp] theorem dNe_ss : dNe (.str x) (.str y) = some (.bool (decide (x ≠ y))) := by
  simp [dNe, eqOk, PyData.plain, PyData.depth, PyData.eqv, beqD]
@[simp] theorem dLt_ii : dLt (.int i) (.int j) = some (.bool (decide (i < j))) := by
  simp [dLt, ltOk, PyData.plain, PyData.depth, PySem.W.alike, PySem.W.dataLt_int, notNone]
@[simp] theorem dGt_ii : dGt (.int i) (.int j) = some (.bool (decide (i > j))) := by
  simp [dGt, ltOk, PyData.plain, PyData.depth, PySem.W.alike, PySem.W.dataLt_int, notNone]
@[simp] theorem dLe_ii : dLe (.int i) (.int j) = some (.bool (decide (i ≤ j))) := by
  have e : decide (j < i) = !decide (i ≤ j) := by rw [← decide_not]; exact decide_eq_decide.mpr (by omega)
  simp [e, dLe, ltOk, PyData.plain, PyData.depth, PySem.W.alike, PySem.W.dataLt_int, notNone]
@[simp] theorem dGe_ii : dGe (.int i) (.int j) = some (.bool (decide (i ≥ j))) := by
  have e : decide (i < j) = !decide (j ≤ i) := by rw [← decide_not]; exact decide_eq_decide.mpr (by omega)
  simp [e, dGe, ltOk, PyData.plain, PyData.depth, PySem.W.alike, PySem.W.dataLt_int, notNone]
@[simp] theorem dAdd_ii : dAdd (.int i) (.int j) = some (.int (i + j)) := rfl
@[simp] theorem dSub_ii : dSub (.int i) (.int j) = some (.int (i - j)) := rfl
theorem dMul_ii (h : (-2 ^ 64 < i ∧ i < 2 ^ 64) ∨ (-2 ^ 64 < j ∧ j < 2 ^ 64)) : dMul (.int i) (.int j) = some (.int (i * j)) := by
  show (if mulOk i j = true then _ else _) = _
  rw [if_pos (show mulOk i j = true from decide_eq_true h)]
theorem dMod_ii (h : j ≠ 0) : dMod (.int i) (.int j) = some (.int (i.fmod j)) := by
  show (if j ≠ 0 then _ else _) = _
  rw [if_pos h]
theorem dDiv_ii (h : j ≠ 0 ∧ j.natAbs < 1073741824) : dDiv (.int i) (.int j) = some (.int (i.fdiv j)) := by
  show (if divOk j = true then _ else _) = _
  rw [if_pos (show divOk j = true from decide_eq_true h)]
@[simp] theorem dIsN (d : D) : dIs d .none = some (.bool (isNon d)) := rfl
@[simp] theorem dIsNotN (d : D) : dIsNot d .none = some (.bool (!isNon d)) := rfl
end
end Dl

set_option Elab.async false
set_option linter.all false
set_option maxRecDepth 100000
set_option maxHeartbeats 8000000
/-! Dl19: the equations of terms, applied. -/
namespace Dl
open PySem
section
variable {G : Gx} {Φ : Fs} {Γ : Gm}
theorem e_var (i : Nat) : ev G Φ (.var i) Γ = getG Γ i := by rw [ev]
theorem e_int (i : Int) : ev G Φ (.int i) Γ = some (.int i) := by rw [ev]
theorem e_str (x : Str) : ev G Φ (.str x) Γ = some (.str x) := by rw [ev]
theorem e_bl (b : Bool) : ev G Φ (.bl b) Γ = some (.bool b) := by rw [ev]
theorem e_non  : ev G Φ (.non) Γ = some .none := by rw [ev]
theorem e_glb (k : Nat) : ev G Φ (.glb k) Γ = (G.cons[k]?).map fun p => .str p.2 := by rw [ev]
theorem e_bin (o : BOp) (a : Ex) (b : Ex) : ev G Φ (.bin o a b) Γ = (ev G Φ a Γ).bind fun x => (ev G Φ b Γ).bind fun y => o.fo x y := by rw [ev]
theorem e_cmp (o : COp) (a : Ex) (b : Ex) : ev G Φ (.cmp o a b) Γ = (ev G Φ a Γ).bind fun x => (ev G Φ b Γ).bind fun y => o.fo x y := by rw [ev]
theorem e_chain (o : COp) (o' : COp) (a : Ex) (b : Ex) (d : Ex) : ev G Φ (.chain o o' a b d) Γ = (vChain o.fo o'.fo (ev G Φ a) (ev G Φ b) (ev G Φ d)) Γ := by rw [ev]
theorem e_neg (a : Ex) : ev G Φ (.neg a) Γ = (ev G Φ a Γ).bind dNeg := by rw [ev]
theorem e_not (a : Ex) : ev G Φ (.not a) Γ = (ev G Φ a Γ).bind dNot := by rw [ev]
theorem e_and (a : Ex) (b : Ex) : ev G Φ (.and a b) Γ = (vAnd (ev G Φ a) (ev G Φ b)) Γ := by rw [ev]
theorem e_or (a : Ex) (b : Ex) : ev G Φ (.or a b) Γ = (vOr (ev G Φ a) (ev G Φ b)) Γ := by rw [ev]
theorem e_one (a : Ex) : ev G Φ (.one a) Γ = (ev G Φ a) Γ := by rw [ev]
theorem e_ite (t : Ex) (a : Ex) (b : Ex) : ev G Φ (.ite t a b) Γ = ((ev G Φ t Γ).bind dTru).bind fun k => if k = true then ev G Φ a Γ else ev G Φ b Γ := by rw [ev]
theorem e_tup (es : Exs) : ev G Φ (.tup es) Γ = (evs G Φ es Γ).bind fun ds => if fit ds.length then some (.tuple ds) else none := by rw [ev]
theorem e_lst (es : Exs) : ev G Φ (.lst es) Γ = (evs G Φ es Γ).bind fun ds => if fit ds.length then some (.list ds) else none := by rw [ev]
theorem e_dic (kd : Bool) : ev G Φ (.dic kd) Γ = some (iniD kd) := by rw [ev]
theorem e_idx (a : Ex) (b : Ex) : ev G Φ (.idx a b) Γ = (ev G Φ a Γ).bind fun x => (ev G Φ b Γ).bind fun y => dIdx x y := by rw [ev]
theorem e_dget (a : Ex) (b : Ex) : ev G Φ (.dget a b) Γ = (ev G Φ a Γ).bind fun x => (ev G Φ b Γ).bind fun y => dGet x y := by rw [ev]
theorem e_slc (a : Ex) (lo : Oe) (hi : Oe) : ev G Φ (.slc a lo hi) Γ = (ev G Φ a Γ).bind fun x => (evo G Φ lo Γ).bind fun l => (evo G Φ hi Γ).bind fun h => dSlc x l h := by rw [ev]
theorem e_get1 (o : Ex) (k : Ex) : ev G Φ (.get1 o k) Γ = (ev G Φ o Γ).bind fun x => (ev G Φ k Γ).bind fun y => (dAsk x y).map fun o => o.getD .none := by rw [ev]
theorem e_get2 (o : Ex) (k : Ex) (z : Ex) : ev G Φ (.get2 o k z) Γ = (ev G Φ o Γ).bind fun x => (ev G Φ k Γ).bind fun y => (ev G Φ z Γ).bind fun w => (dAsk x y).map fun o => o.getD w := by rw [ev]
theorem e_call (f : Nat) (e : Ex) (es : Exs) : ev G Φ (.call f e es) Γ = (((ev G Φ e Γ).bind fun x => (evs G Φ es Γ).bind fun xs => some (x :: xs))).bind (Φ f) := by rw [ev]
theorem e_bi (b : Bi) (e : Ex) (es : Exs) : ev G Φ (.bi b e es) Γ = (((ev G Φ e Γ).bind fun x => (evs G Φ es Γ).bind fun xs => some (x :: xs))).bind b.fo := by rw [ev]
theorem e_isa (t : Ty) (a : Ex) : ev G Φ (.isa t a) Γ = (ev G Φ a Γ).bind fun d => (dIsa t.s d).map .bool := by rw [ev]
theorem e_comp (elt : Ex) (t : Tg) (it : Ir) (cnd : Oe) (vs : List Nat) : ev G Φ (.comp elt t it cnd vs) Γ = (evi G Φ it Γ).bind fun ds => (compL (stepC t (evc G Φ cnd) (ev G Φ elt) (blkG vs (esci it) Γ)) ds).map .list := by rw [ev]
theorem e_comp2 (elt : Ex) (t : Tg) (it : Ir) (cnd : Oe) (t1 : Tg) (it1 : Ir) (cnd1 : Oe) (vs : List Nat) (vs1 : List Nat) : ev G Φ (.comp2 elt t it cnd t1 it1 cnd1 vs vs1) Γ = (evi G Φ it Γ).bind fun ds => (compF (stepF t (evc G Φ cnd) (evi G Φ it1) vs1 (esci it1) t1 (evc G Φ cnd1) (ev G Φ elt) (blkG vs (esci it) Γ)) ds).bind fun r => if fit r.length then some (.list r) else none := by rw [ev]
theorem e_dcomp (kd : Bool) (k : Ex) (v : Ex) (t : Tg) (it : Ir) (cnd : Oe) (vs : List Nat) : ev G Φ (.dcomp kd k v t it cnd vs) Γ = (evi G Φ it Γ).bind fun ds => compD (stepD t (evc G Φ cnd) (ev G Φ k) (ev G Φ v) (blkG vs (esci it) Γ)) ds (iniD kd) := by rw [ev]
theorem es_nil  : evs G Φ (.nil) Γ = some [] := by rw [evs]
theorem es_cons (e : Ex) (es : Exs) : evs G Φ (.cons e es) Γ = (ev G Φ e Γ).bind fun x => (evs G Φ es Γ).bind fun xs => some (x :: xs) := by rw [evs]
theorem eo_no  : evo G Φ (.no) Γ = some none := by rw [evo]
theorem eo_yes (e : Ex) : evo G Φ (.yes e) Γ = ((ev G Φ e Γ).bind asI).map some := by rw [evo]
theorem ec_no  : evc G Φ (.no) Γ = some true := by rw [evc]
theorem ec_yes (e : Ex) : evc G Φ (.yes e) Γ = (ev G Φ e Γ).bind dTru := by rw [evc]
theorem ei_seq (e : Ex) : evi G Φ (.seq e) Γ = (ev G Φ e Γ).bind dItems := by rw [evi]
theorem ei_rng1 (e : Ex) : evi G Φ (.rng1 e) Γ = ((ev G Φ e Γ).bind asI).bind fun n => if decide (-(2 ^ 62) ≤ n ∧ n ≤ 16777216) then some ((List.range n.toNat).map fun (i : Nat) => .int i) else none := by rw [evi]
theorem ei_rng2 (a : Ex) (b : Ex) : evi G Φ (.rng2 a b) Γ = ((ev G Φ a Γ).bind asI).bind fun m => ((ev G Φ b Γ).bind asI).bind fun n => if decide ((-(2 ^ 62) ≤ m ∧ m < 2 ^ 62) ∧ (-(2 ^ 62) ≤ n ∧ n < 2 ^ 62) ∧ n - m ≤ 16777216) then some ((List.range (n - m).toNat).map fun (i : Nat) => .int (m + i)) else none := by rw [evi]
theorem s_asg (t : Tg) (e : Ex) : evS G Φ (.asg t e) Γ = (evAsg t (fre e) (esc e) (ev G Φ e)) Γ := by rw [evS]
theorem s_aug (o : AOp) (i : Nat) (e : Ex) : evS G Φ (.aug o i e) Γ = (evAug o i (ev G Φ e)) Γ := by rw [evS]
theorem s_setL (i : Nat) (k : Ex) (e : Ex) : evS G Φ (.setL i k e) Γ = (evSetL i (esc e) (esc k) (ev G Φ e) (ev G Φ k)) Γ := by rw [evS]
theorem s_setD (i : Nat) (k : Ex) (e : Ex) : evS G Φ (.setD i k e) Γ = (evSetD i (esc e) (esc k) (ev G Φ e) (ev G Φ k)) Γ := by rw [evS]
theorem s_app (i : Nat) (e : Ex) : evS G Φ (.app i e) Γ = (evApp i (esc e) (ev G Φ e)) Γ := by rw [evS]
theorem s_ext (i : Nat) (e : Ex) : evS G Φ (.ext i e) Γ = (evExt i (esc e) (ev G Φ e)) Γ := by rw [evS]
theorem s_pop (j : Nat) (i : Nat) : evS G Φ (.pop j i) Γ = (evPop j i) Γ := by rw [evS]
theorem s_ite (t : Ex) (a : Sts) (b : Sts) : evS G Φ (.ite t a b) Γ = ((ev G Φ t Γ).bind dTru).bind fun k => if k = true then evSs G Φ a Γ else evSs G Φ b Γ := by rw [evS]
theorem s_for_ (t : Tg) (it : Ir) (b : Sts) (kl : List Nat) : evS G Φ (.for_ t it b kl) Γ = (evi G Φ it Γ).bind fun ds => evFor t (evSs G Φ b) kl ds (killG kl (unown (esci it) Γ)) := by rw [evS]
theorem s_wh (t : Ex) (b : Sts) (kl : List Nat) : evS G Φ (.wh t b kl) Γ = evWhile (fun Γ => (ev G Φ t Γ).bind dTru) (evSs G Φ b) kl fuel (killG kl Γ) := by rw [evS]
theorem s_ret (e : Ex) : evS G Φ (.ret e) Γ = (ev G Φ e Γ).map .rt := by rw [evS]
theorem s_retN  : evS G Φ (.retN) Γ = some (.rt .none) := by rw [evS]
theorem s_brk  : evS G Φ (.brk) Γ = some (.bk Γ) := by rw [evS]
theorem s_cnt  : evS G Φ (.cnt) Γ = some (.ct Γ) := by rw [evS]
theorem s_pas  : evS G Φ (.pas) Γ = some (.nx Γ) := by rw [evS]
theorem ss_nil  : evSs G Φ (.nil) Γ = some (.nx Γ) := by rw [evSs]
theorem ss_cons (s : St) (r : Sts) : evSs G Φ (.cons s r) Γ = (evS G Φ s Γ).bind (seqF (evSs G Φ r)) := by rw [evSs]
theorem sq_nx (g : Gm → Option Fw) : seqF g (.nx Γ) = g Γ := by unfold seqF; exact Eq.trans rfl rfl
theorem sq_rt (g : Gm → Option Fw) (d : D) : seqF g (.rt d) = some (.rt d) := by unfold seqF; exact Eq.trans rfl rfl
theorem sq_bk (g : Gm → Option Fw) : seqF g (.bk Γ) = some (.bk Γ) := by unfold seqF; exact Eq.trans rfl rfl
theorem sq_ct (g : Gm → Option Fw) : seqF g (.ct Γ) = some (.ct Γ) := by unfold seqF; exact Eq.trans rfl rfl
theorem rn_nx : runF (.nx Γ) = some .none := by unfold runF; exact Eq.trans rfl rfl
theorem rn_rt (d : D) : runF (.rt d) = some d := by unfold runF; exact Eq.trans rfl rfl
end
end Dl

set_option Elab.async false
set_option linter.all false
set_option maxRecDepth 100000
set_option maxHeartbeats 8000000
/-! Dl20: dicts by keys of a Lean type. -/
namespace Dl
open PySem
/-- a type's values as keys of one of the two kinds of dicts -/
class Ky (κ : Type) [DecidableEq κ] where
  e : κ → D
  kd : Bool
  eqv : ∀ p q, PyData.eqv (e p) (e q) = decide (p = q)
  tup : kd = true → ∀ p, ∃ ks, e p = .tuple ks ∧ (toKeys ks).isSome = true
  flt : kd = false → ∀ p, (toKey (e p)).isSome = true
section
variable {κ : Type} [DecidableEq κ] [Ky κ]
/-- a dict as a list of pairs -/
def eDic (L : List (κ × D)) : D := .dict ((if Ky.kd κ = true then [mk] else []) ++ L.map fun e => (Ky.e e.1, e.2))
theorem look_ky (L : List (κ × D)) (q : κ) : dLook (L.map fun e => (Ky.e e.1, e.2)) (Ky.e q) = (L.find? fun e => decide (e.1 = q)).map (·.2) := by
  unfold dLook
  induction L with
  | nil => rfl
  | cons x L ih =>
    rw [List.map_cons, List.find?_cons, List.find?_cons]
    rw [show PyData.eqv (Ky.e x.1, x.2).1 (Ky.e q) = decide (x.1 = q) from Ky.eqv _ _]
    by_cases h : x.1 = q
    · simp [h]
    · simp only [h, decide_false]
      exact ih
theorem flat_ky (h : Ky.kd κ = false) (L : List (κ × D)) : flat (L.map fun e => (Ky.e e.1, e.2)) = true := by
  cases L with
  | nil => rfl
  | cons x L =>
    have q := Ky.flt h x.1
    show flat ((Ky.e x.1, x.2) :: _) = true
    cases e : Ky.e x.1 <;> rw [e] at q <;> first | rfl | cases q
theorem dAsk_ky (L : List (κ × D)) (q : κ) : dAsk (eDic L) (Ky.e q) = some ((L.find? fun e => decide (e.1 = q)).map (·.2)) := by
  unfold eDic
  by_cases h : Ky.kd κ = true
  · rw [if_pos h]
    obtain ⟨ks, e1, e2⟩ := Ky.tup h q
    rw [e1]
    show (if (toKeys ks).isSome = true then some (dLook (L.map fun e => (Ky.e e.1, e.2)) (.tuple ks)) else none) = _
    rw [if_pos e2, ← e1, look_ky]
  · rw [if_neg h]
    have h' : Ky.kd κ = false := by simpa using h
    have f := flat_ky h' L
    have g := Ky.flt h' q
    rw [List.nil_append]
    have z := look_ky L q
    cases e : Ky.e q <;> rw [e] at g z <;> first | (cases g; done) | skip
    all_goals
      show (if (flat _ && true) = true then some (dLook _ _) else none) = _
      rw [f, z]
      rfl
theorem find_any {α : Type} (p : α → Bool) (L : List α) : (L.find? p).isSome = L.any p := by
  induction L with
  | nil => rfl
  | cons x L ih =>
    rw [List.find?_cons, List.any_cons]
    cases p x with
    | true => rfl
    | false => exact ih
theorem dIn_ky (L : List (κ × D)) (q : κ) : dIn (Ky.e q) (eDic L) = some (.bool (L.any fun e => decide (e.1 = q))) := by
  unfold dIn dHas
  show ((dAsk (eDic L) (Ky.e q)).map Option.isSome).map _ = _
  rw [dAsk_ky, ← find_any]
  simp
theorem dNotIn_ky (L : List (κ × D)) (q : κ) : dNotIn (Ky.e q) (eDic L) = some (.bool (!L.any fun e => decide (e.1 = q))) := by
  unfold dNotIn dHas
  show ((dAsk (eDic L) (Ky.e q)).map Option.isSome).map _ = _
  rw [dAsk_ky, ← find_any]
  simp
def stKy (L : List (κ × D)) (q : κ) (v : D) : List (κ × D) := if (L.any fun e => decide (e.1 = q)) = true then L.map (fun e => if e.1 = q then (e.1, v) else e) else L ++ [(q, v)]
theorem store_ky (L : List (κ × D)) (q : κ) (v : D) : dStore (L.map fun e => (Ky.e e.1, e.2)) (Ky.e q) v = (stKy L q v).map fun e => (Ky.e e.1, e.2) := by
  unfold dStore stKy
  have e1 : ((L.map fun e => (Ky.e e.1, e.2)).any fun e => PyData.eqv e.1 (Ky.e q)) = L.any fun e => decide (e.1 = q) := by
    rw [List.any_map]
    congr 1
    funext e
    exact Ky.eqv _ _
  rw [e1]
  by_cases h : (L.any fun e => decide (e.1 = q)) = true
  · rw [if_pos h, if_pos h, List.map_map, List.map_map]
    congr 1
    funext e
    show (if PyData.eqv (Ky.e e.1) (Ky.e q) = true then _ else _) = _
    rw [Ky.eqv]
    by_cases h2 : e.1 = q <;> simp [h2]
  · rw [if_neg h, if_neg h]
    simp
theorem dPut_ky (L : List (κ × D)) (q : κ) (v : D) (hl : L.length < 16777216) : dPut (eDic L) (Ky.e q) v = some (eDic (stKy L q v)) := by
  unfold eDic
  by_cases h : Ky.kd κ = true
  · rw [if_pos h]
    obtain ⟨ks, e1, e2⟩ := Ky.tup h q
    have z := store_ky L q v
    rw [e1] at z ⊢
    show (if ((toKeys ks).isSome && decide ((L.map fun e => (Ky.e e.1, e.2)).length < 16777216)) = true then some (PyData.dict (mk :: dStore (L.map fun e => (Ky.e e.1, e.2)) (.tuple ks) v)) else none) = _
    rw [if_pos (by rw [e2, List.length_map]; simp [hl]), z]
    rfl
  · rw [if_neg h]
    have h' : Ky.kd κ = false := by simpa using h
    have f := flat_ky h' L
    have g := Ky.flt h' q
    rw [List.nil_append, List.nil_append]
    have z := store_ky L q v
    cases e : Ky.e q <;> rw [e] at g z <;> first | (cases g; done) | skip
    all_goals
      show (if (flat _ && true && decide (_ < 16777216)) = true then some (PyData.dict (dStore _ _ _)) else none) = _
      rw [f, z, List.length_map, if_pos (by simp [hl])]
theorem stKy_new (L : List (κ × D)) (q : κ) (v : D) (h : ∀ e ∈ L, e.1 ≠ q) : stKy L q v = L ++ [(q, v)] := by
  unfold stKy
  rw [if_neg]
  simp only [List.any_eq_true, decide_eq_true_eq]
  rintro ⟨e, he, h2⟩
  exact h e he h2
theorem compD_new {α : Type} {step : D → Option (Option (D × D))} (enc : α → D) (p : α → Bool) (ky : α → κ) (v : α → D) : ∀ (xs : List α) (L : List (κ × D)), (∀ x ∈ xs, step (enc x) = some (if p x = true then some (Ky.e (ky x), v x) else none)) → (xs.map ky).Nodup → (∀ x ∈ xs, ∀ e ∈ L, e.1 ≠ ky x) →
    L.length + xs.length ≤ 16777216 → compD step (xs.map enc) (eDic L) = some (eDic (L ++ (xs.filter p).map fun x => (ky x, v x)))
  | [], L, _, _, _, _ => by simp [compD]
  | x :: xs, L, h, nd, nw, hl => by
    rw [List.map_cons]
    unfold compD
    rw [h x (by simp)]
    rw [List.map_cons, List.nodup_cons] at nd
    rw [List.length_cons] at hl
    by_cases hp : p x = true
    · simp only [hp, if_true, Option.bind_some]
      rw [dPut_ky L _ _ (by omega), stKy_new L _ _ (nw x (by simp))]
      show compD step (xs.map enc) _ = _
      rw [compD_new enc p ky v xs _ (fun y hy => h y (by simp [hy])) nd.2 (fun y hy e he => ?_) (by simp; omega)]
      · rw [List.filter_cons, if_pos hp, List.map_cons]
        simp
      · rcases List.mem_append.mp he with he | he
        · exact nw y (by simp [hy]) e he
        · rw [List.mem_singleton] at he
          subst he
          exact fun z => nd.1 (List.mem_map.mpr ⟨y, hy, z.symm⟩)
    · simp only [hp, if_false, Option.bind_some]
      show compD step (xs.map enc) _ = _
      rw [compD_new enc p ky v xs L (fun y hy => h y (by simp [hy])) nd.2 (fun y hy e he => nw y (by simp [hy]) e he) (by omega), List.filter_cons, if_neg hp]
end
/-- a pair of ints as a key -/
def eII (p : Int × Int) : D := .tuple [.int p.1, .int p.2]
instance : Ky (Int × Int) where
  e := eII
  kd := true
  eqv p q := by
    simp only [eII, PyData.eqv, PyData.eqvAll, Bool.and_true]
    rw [beqD, beqD, ← Bool.decide_and]
    exact decide_eq_decide.mpr ⟨fun e => Prod.ext e.1 e.2, fun e => by rw [e]; exact ⟨rfl, rfl⟩⟩
  tup _ p := ⟨_, rfl, rfl⟩
  flt h := by cases h
instance : Ky Int where
  e := .int
  kd := false
  eqv p q := by
    simp only [PyData.eqv]
    exact beqD _ _
  tup h := by cases h
  flt _ p := rfl
instance : Ky Str where
  e := .str
  kd := false
  eqv p q := by
    simp only [PyData.eqv]
    exact beqD _ _
  tup h := by cases h
  flt _ p := rfl
end Dl

set_option Elab.async false
set_option linter.all false
set_option maxRecDepth 100000
set_option maxHeartbeats 8000000
/-! Dl21: loops that look. -/
namespace Dl
open PySem
def lkF {β : Type} (e : β → D) (o : Option β) (Γ : Gm) : Fw := match o with
  | none => .nx Γ
  | some b => .rt (e b)
theorem lkF_none {β : Type} (e : β → D) (Γ : Gm) : lkF e none Γ = .nx Γ := by
  unfold lkF
  exact Eq.trans rfl rfl
theorem lkF_some {β : Type} (e : β → D) (b : β) (Γ : Gm) : lkF e (some b) Γ = .rt (e b) := by
  unfold lkF
  exact Eq.trans rfl rfl
theorem evFor_lk {α β : Type} {t : Tg} {body : Gm → Option Fw} {kl : List Nat} {Γ : Gm} (enc : α → D) (g : α → Option β) (eb : β → D) (put nxt : α → Gm) (xs : List α)
    (h : ∀ x ∈ xs, t.put (enc x) Γ = some (put x) ∧ body (put x) = some (lkF eb (g x) (nxt x)) ∧ killG kl (nxt x) = Γ) : evFor t body kl (xs.map enc) Γ = some (lkF eb (xs.findSome? g) Γ) := by
  induction xs with
  | nil => rfl
  | cons x xs ih =>
    obtain ⟨e1, e2, e3⟩ := h x (by simp)
    have ih := ih fun y hy => h y (by simp [hy])
    rw [List.map_cons, List.findSome?_cons]
    unfold evFor
    rw [e1]
    refine Eq.trans (b := (body (put x)).bind (stepL kl (evFor t body kl (xs.map enc)))) rfl ?_
    rw [e2]
    cases e4 : g x with
    | none =>
      refine Eq.trans (b := evFor t body kl (xs.map enc) (killG kl (nxt x))) rfl ?_
      rw [e3]
      exact ih
    | some d => rfl
section
variable {G : Gx} {Φ : Fs} {Γ : Gm}
theorem evi_rng1 {e : Ex} {n : Nat} (he : ev G Φ e Γ = some (.int n)) (hn : n ≤ 16777216) : evi G Φ (.rng1 e) Γ = some ((List.range n).map fun (i : Nat) => PyData.int i) := by
  unfold evi
  have h1 : decide (-(2 ^ 62 : Int) ≤ (n : Int) ∧ (n : Int) ≤ 16777216) = true := decide_eq_true ⟨by omega, by omega⟩
  simp only [he, Option.bind_some, asI, h1, if_true, Int.toNat_natCast]
theorem evi_seq {e : Ex} {d : D} {ds : List D} (he : ev G Φ e Γ = some d) (hd : dItems d = some ds) : evi G Φ (.seq e) Γ = some ds := by
  unfold evi
  simp only [he, Option.bind_some, hd]
theorem stepF_eq {t t1 : Tg} {tt tt1 : Gm → Option Bool} {fi : Gm → Option (List D)} {vs1 S1 : List Nat} {ve : Gm → Option D} {d : D} {Γ1 : Gm} {ds : List D} {r : Option (List D)} (h1 : t.put d Γ = some Γ1) (h2 : tt Γ1 = some true) (h3 : fi Γ1 = some ds) (h4 : compL (stepC t1 tt1 ve (blkG vs1 S1 Γ1)) ds = r) : stepF t tt fi vs1 S1 t1 tt1 ve Γ d = r := by
  unfold stepF
  rw [h1]
  refine Eq.trans (b := (tt Γ1).bind fun k => if k = true then (fi Γ1).bind fun ds1 => compL (stepC t1 tt1 ve (blkG vs1 S1 Γ1)) ds1 else some []) rfl ?_
  rw [h2]
  refine Eq.trans (b := (fi Γ1).bind fun ds1 => compL (stepC t1 tt1 ve (blkG vs1 S1 Γ1)) ds1) rfl ?_
  rw [h3]
  exact h4
theorem ev_comp {elt : Ex} {t : Tg} {it : Ir} {cnd : Oe} {vs : List Nat} {ds out : List D} (h1 : evi G Φ it Γ = some ds) (h2 : compL (stepC t (evc G Φ cnd) (ev G Φ elt) (blkG vs (esci it) Γ)) ds = some out) : ev G Φ (.comp elt t it cnd vs) Γ = some (.list out) := by
  rw [e_comp, h1]
  refine Eq.trans (b := (compL (stepC t (evc G Φ cnd) (ev G Φ elt) (blkG vs (esci it) Γ)) ds).map .list) rfl ?_
  rw [h2]
  rfl
theorem ev_comp2 {elt : Ex} {t t1 : Tg} {it it1 : Ir} {cnd cnd1 : Oe} {vs vs1 : List Nat} {ds out : List D} (h1 : evi G Φ it Γ = some ds) (h2 : compF (stepF t (evc G Φ cnd) (evi G Φ it1) vs1 (esci it1) t1 (evc G Φ cnd1) (ev G Φ elt) (blkG vs (esci it) Γ)) ds = some out) (h3 : out.length ≤ 16777216) : ev G Φ (.comp2 elt t it cnd t1 it1 cnd1 vs vs1) Γ = some (.list out) := by
  rw [e_comp2, h1]
  refine Eq.trans (b := (compF (stepF t (evc G Φ cnd) (evi G Φ it1) vs1 (esci it1) t1 (evc G Φ cnd1) (ev G Φ elt) (blkG vs (esci it) Γ)) ds).bind fun r => if fit r.length then some (.list r) else none) rfl ?_
  rw [h2]
  refine Eq.trans (b := if fit out.length = true then some (.list out) else none) rfl ?_
  rw [if_pos (show fit out.length = true from decide_eq_true h3)]
theorem ev_dcomp {kd : Bool} {k v : Ex} {t : Tg} {it : Ir} {cnd : Oe} {vs : List Nat} {ds : List D} {out : D} (h1 : evi G Φ it Γ = some ds) (h2 : compD (stepD t (evc G Φ cnd) (ev G Φ k) (ev G Φ v) (blkG vs (esci it) Γ)) ds (iniD kd) = some out) : ev G Φ (.dcomp kd k v t it cnd vs) Γ = some out := by
  rw [e_dcomp, h1]
  exact h2
end
end Dl

set_option Elab.async false
set_option linter.all false
set_option maxRecDepth 100000
set_option maxHeartbeats 8000000
/-! Dl22: more of plain values. -/
namespace Dl
open PySem
open L2 (atI ixN)
mutual
/-- what a law's own comparison likes -/
def okIs : D → Bool
  | .none => true
  | .bool _ => true
  | .int _ => true
  | .str _ => true
  | .tuple ds => decide (ds.length ≤ 16777216) && okAll ds
  | _ => false
def okAll : List D → Bool
  | [] => true
  | d :: ds => okIs d && okAll ds
end
mutual
theorem okIs_plain : ∀ d : D, okIs d = true → d.plain = true
  | .none, _ => rfl
  | .bool _, _ => rfl
  | .int _, _ => rfl
  | .str _, _ => rfl
  | .tuple ds, h => by
    simp only [okIs, Bool.and_eq_true] at h
    simp only [PyData.plain]
    exact okAll_plain ds h.2
  | .list _, h => by simp [okIs] at h
  | .dict _, h => by simp [okIs] at h
theorem okAll_plain : ∀ ds : List D, okAll ds = true → PyData.plainAll ds = true
  | [], _ => rfl
  | d :: ds, h => by
    simp only [okAll, Bool.and_eq_true] at h
    simp only [PyData.plainAll, okIs_plain d h.1, okAll_plain ds h.2, Bool.and_self]
end
theorem okAll_mem : ∀ {ds : List D} {d : D}, okAll ds = true → d ∈ ds → okIs d = true
  | [], d, _, h => by simp at h
  | x :: ds, d, h, hd => by
    simp only [okAll, Bool.and_eq_true] at h
    rcases List.mem_cons.mp hd with rfl | hd
    · exact h.1
    · exact okAll_mem h.2 hd
theorem depth_mem : ∀ {ds : List D} {d : D}, d ∈ ds → d.depth ≤ PyData.depthAll ds
  | [], d, h => by simp at h
  | x :: ds, d, hd => by
    simp only [PyData.depthAll]
    rcases List.mem_cons.mp hd with rfl | hd
    · omega
    · have := depth_mem hd
      omega
theorem isa_of {T : String} {d : D} (h : d.plain = true) {b : Option Bool} (e : (match T with
  | "int" => some (PySem.PyData.isInt d)
  | "bool" => some (PySem.PyData.isBool d)
  | "str" => some (PySem.PyData.isStr d)
  | "tuple" => some (PySem.PyData.isTuple d)
  | "list" => some (PySem.PyData.isList d)
  | _ => none) = b) : dIsa T d = b := by
  unfold dIsa
  rw [if_pos h]
  exact e
theorem isa_int {d : D} (h : d.plain = true) : dIsa "int" d = some (PySem.PyData.isInt d) := isa_of h rfl
theorem isa_bool {d : D} (h : d.plain = true) : dIsa "bool" d = some (PySem.PyData.isBool d) := isa_of h rfl
theorem isa_str {d : D} (h : d.plain = true) : dIsa "str" d = some (PySem.PyData.isStr d) := isa_of h rfl
theorem isa_tuple {d : D} (h : d.plain = true) : dIsa "tuple" d = some (PySem.PyData.isTuple d) := isa_of h rfl
theorem atI_nat {α : Type} (xs : List α) (n : Nat) (h : n < xs.length) : atI xs (n : Int) = some xs[n] := by
  unfold atI ixN
  have h1 : (0 : Int) ≤ n := by omega
  have h2 : (n : Int) < xs.length := by omega
  rw [if_pos h1, if_pos h2]
  simp [h]
theorem atI_last {α : Type} (xs : List α) (y : α) : atI (xs ++ [y]) (-1) = some y := by
  unfold atI ixN
  have h1 : ¬ (0 : Int) ≤ -1 := by omega
  have h2 : -((xs ++ [y]).length : Int) ≤ -1 := by
    rw [List.length_append, List.length_singleton]
    omega
  rw [if_neg h1, if_pos h2]
  have e : (-1 + ((xs ++ [y]).length : Int)).toNat = xs.length := by
    rw [List.length_append, List.length_singleton]
    omega
  simp only [Option.bind_some, e]
  simp
theorem asBools_map {α : Type} (f : α → Bool) (xs : List α) : asBools (xs.map fun x => PyData.bool (f x)) = some (xs.map f) := by
  induction xs with
  | nil => rfl
  | cons x xs ih =>
    simp only [List.map_cons, asBools]
    rw [ih]
    rfl
theorem asInts_map {α : Type} (f : α → Int) (xs : List α) : asInts (xs.map fun x => PyData.int (f x)) = some (xs.map f) := by
  induction xs with
  | nil => rfl
  | cons x xs ih =>
    simp only [List.map_cons, asInts]
    rw [ih]
    rfl
theorem dAll_map {α : Type} (f : α → Bool) (xs : List α) : dAll [.list (xs.map fun x => PyData.bool (f x))] = some (.bool (xs.all f)) := by
  unfold dAll
  simp only [asBools_map, Option.map_some, List.all_map]
  rfl
theorem at_non  : isAtom (PyData.none) = true := by unfold isAtom; exact Eq.trans rfl rfl
theorem mt_non  : isMut (PyData.none) = false := by unfold isMut; exact Eq.trans rfl rfl
theorem at_bl (b : Bool) : isAtom (PyData.bool b) = true := by unfold isAtom; exact Eq.trans rfl rfl
theorem mt_bl (b : Bool) : isMut (PyData.bool b) = false := by unfold isMut; exact Eq.trans rfl rfl
theorem at_int (i : Int) : isAtom (PyData.int i) = true := by unfold isAtom; exact Eq.trans rfl rfl
theorem mt_int (i : Int) : isMut (PyData.int i) = false := by unfold isMut; exact Eq.trans rfl rfl
theorem at_str (x : Str) : isAtom (PyData.str x) = true := by unfold isAtom; exact Eq.trans rfl rfl
theorem mt_str (x : Str) : isMut (PyData.str x) = false := by unfold isMut; exact Eq.trans rfl rfl
theorem at_lst (x : List D) : isAtom (PyData.list x) = false := by unfold isAtom; exact Eq.trans rfl rfl
theorem mt_lst (x : List D) : isMut (PyData.list x) = true := by unfold isMut; exact Eq.trans rfl rfl
theorem at_tup (x : List D) : isAtom (PyData.tuple x) = false := by unfold isAtom; exact Eq.trans rfl rfl
theorem mt_tup (x : List D) : isMut (PyData.tuple x) = false := by unfold isMut; exact Eq.trans rfl rfl
theorem at_dic (x : List (D × D)) : isAtom (PyData.dict x) = false := by unfold isAtom; exact Eq.trans rfl rfl
theorem mt_dic (x : List (D × D)) : isMut (PyData.dict x) = true := by unfold isMut; exact Eq.trans rfl rfl
end Dl

set_option Elab.async false
set_option linter.all false
set_option maxRecDepth 100000
set_option maxHeartbeats 8000000
/-! Dl23: texts in lists and tuples. -/
namespace Dl
open PySem
open L2 (atI ixN)
def eSs (ws : List Str) : List D := ws.map .str
theorem plain_ss : ∀ ws : List Str, PyData.plainAll (eSs ws) = true
  | [] => rfl
  | w :: ws => by
    have := plain_ss ws
    unfold eSs at this ⊢
    simp only [List.map_cons, PyData.plainAll, PyData.plain, this, Bool.and_self]
theorem depth_ss : ∀ ws : List Str, PyData.depthAll (eSs ws) = 0
  | [] => rfl
  | w :: ws => by
    have := depth_ss ws
    unfold eSs at this ⊢
    simp only [List.map_cons, PyData.depthAll, PyData.depth, this, Nat.max_self]
theorem any_ss (w : Str) (ws : List Str) : ((eSs ws).any fun y => PyData.eqv y (.str w)) = decide (w ∈ ws) := by
  unfold eSs
  rw [List.any_map, Bool.eq_iff_iff]
  simp only [List.any_eq_true, Function.comp, PyData.eqv, decide_eq_true_eq, beq_iff_eq]
  constructor
  · rintro ⟨x, hx, rfl⟩
    exact hx
  · intro h
    exact ⟨w, h, rfl⟩
theorem inOk_ss (w : Str) (ws : List Str) : inOk (.str w) (eSs ws) = true := by
  unfold inOk
  rw [plain_ss, depth_ss]
  simp [PyData.plain]
theorem in_tup (w : Str) (ws : List Str) : dIn (.str w) (.tuple (eSs ws)) = some (.bool (decide (w ∈ ws))) := by
  unfold dIn dHas
  refine Eq.trans (b := (if inOk (.str w) (eSs ws) = true then some ((eSs ws).any fun y => PyData.eqv y (.str w)) else none).map .bool) rfl ?_
  rw [if_pos (inOk_ss w ws), any_ss]
  rfl
theorem in_lst (w : Str) (ws : List Str) : dIn (.str w) (.list (eSs ws)) = some (.bool (decide (w ∈ ws))) := by
  unfold dIn dHas
  refine Eq.trans (b := (if inOk (.str w) (eSs ws) = true then some ((eSs ws).any fun y => PyData.eqv y (.str w)) else none).map .bool) rfl ?_
  rw [if_pos (inOk_ss w ws), any_ss]
  rfl
/-- texts in order -/
def srt (ws : List Str) : List Str := ws.mergeSort fun a b => !decide (b.cps.toList < a.cps.toList)
theorem srt_perm (ws : List Str) : (srt ws).Perm ws := List.mergeSort_perm _ _
theorem dSort_ss (ws : List Str) : dSort (eSs ws) = eSs (srt ws) := by
  unfold dSort eSs srt
  rw [← List.map_mergeSort (r := fun a b : Str => !decide (b.cps.toList < a.cps.toList)) (s := fun a b => !PySem.W.dataLt b a) (f := PyData.str) (fun a _ b _ => by
    show (!decide (b.cps.toList < a.cps.toList)) = !PySem.W.dataLt (.str b) (.str a)
    rw [PySem.W.dataLt_str])]
theorem srtOk_ss (ws : List Str) : srtOk (eSs ws) = true := by
  unfold srtOk
  rw [plain_ss]
  unfold eSs
  simp [List.all_map, PySem.W.alike, PyData.depth]
theorem sorted_lst (ws : List Str) : dSorted [.list (eSs ws)] = some (.list (eSs (srt ws))) := by
  refine Eq.trans (b := if srtOk (eSs ws) = true then some (.list (dSort (eSs ws))) else none) rfl ?_
  rw [if_pos (srtOk_ss ws), dSort_ss]
theorem sorted_tup (ws : List Str) : dSorted [.tuple (eSs ws)] = some (.list (eSs (srt ws))) := by
  refine Eq.trans (b := if srtOk (eSs ws) = true then some (.list (dSort (eSs ws))) else none) rfl ?_
  rw [if_pos (srtOk_ss ws), dSort_ss]
theorem okAll_ss : ∀ ws : List Str, okAll (eSs ws) = true
  | [] => rfl
  | w :: ws => by
    have := okAll_ss ws
    unfold eSs at this ⊢
    simp only [List.map_cons, okAll, okIs, this, Bool.and_self]
theorem len_ss (ws : List Str) : (eSs ws).length = ws.length := by
  unfold eSs
  rw [List.length_map]
theorem app_ss (u v : List Str) : eSs u ++ eSs v = eSs (u ++ v) := by
  unfold eSs
  rw [List.map_append]
end Dl

set_option Elab.async false
set_option linter.all false
set_option maxRecDepth 100000
set_option maxHeartbeats 8000000
namespace K47
open PySem PySem.Spec PyProof.Rows L2 Dl

/- left_by_answer: 0=sure 1=doubted 2=question 3=answer 4=kept 5=others 6=word -/
def C1_left_by_answer : Ex := .comp (.var 6) (.nm 6) (.seq (.var 0)) (.yes (.cmp .eq (.cmp .mem (.var 6) (.var 2)) (.var 3))) [6]
def C2_left_by_answer : Ex := .comp (.var 6) (.nm 6) (.seq (.var 0)) (.yes (.cmp .ne (.cmp .mem (.var 6) (.var 2)) (.var 3))) [6]
def C3_left_by_answer : Ex := .comp (.var 6) (.nm 6) (.seq (.var 1)) (.yes (.cmp .eq (.cmp .mem (.var 6) (.var 2)) (.var 3))) [6]
def b_left_by_answer : Sts := (.cons (.asg (.nm 4) (C1_left_by_answer)) (.cons (.asg (.nm 5) (C2_left_by_answer)) (.cons (.ext 5 (C3_left_by_answer)) (.cons (.ret (.tup (.cons (.bi .tuple (.var 4) .nil) (.cons (.bi .tuple (.bi .sorted (.var 5) .nil) .nil) .nil)))) .nil))))
def F_left_by_answer : Fd := ⟨"left_by_answer", 4, ["sure", "doubted", "question", "answer", "kept", "others", "word"], b_left_by_answer⟩
/- good_split: 0=a 1=b 2=known 3=x 4=y -/
def B1_good_split : Sts := (.cons (.ite (.and (.cmp .mem (.tup (.cons (.var 3) (.cons (.bin .sub (.bin .add (.var 4) (.var 0)) (.var 3)) .nil))) (.var 2)) (.one (.cmp .mem (.tup (.cons (.bin .sub (.var 0) (.var 3)) (.cons (.bin .add (.bin .sub (.var 1) (.var 4)) (.var 3)) .nil))) (.var 2)))) (.cons (.ret (.tup (.cons (.var 3) (.cons (.var 4) .nil)))) .nil) .nil) .nil)
def L1_good_split : Dl.St := .for_ (.nm 4) (.rng1 (.bin .add (.var 1) (.int 1))) B1_good_split [4]
def B2_good_split : Sts := (.cons (L1_good_split) .nil)
def L2_good_split : Dl.St := .for_ (.nm 3) (.rng1 (.bin .add (.var 0) (.int 1))) B2_good_split [3, 4]
def b_good_split : Sts := (.cons (L2_good_split) (.cons (.ret (.non)) .nil))
def F_good_split : Fd := ⟨"good_split", 3, ["a", "b", "known", "x", "y"], b_good_split⟩
/- next_known: 0=pairs 1=known 2=a 3=b -/
def C1_next_known : Ex := .dcomp true (.tup (.cons (.var 2) (.cons (.var 3) .nil))) (.bl true) (.tp [2, 3]) (.seq (.var 0)) (.yes (.or (.cmp .le (.bin .add (.var 2) (.var 3)) (.int 1)) (.one (.cmp .nis (.call 1 (.var 2) (.cons (.var 3) (.cons (.var 1) .nil))) (.non))))) [2, 3]
def b_next_known : Sts := (.cons (.ret (C1_next_known)) .nil)
def F_next_known : Fd := ⟨"next_known", 2, ["pairs", "known", "a", "b"], b_next_known⟩
/- pairs_up_to: 0=most 1=a 2=b -/
def C1_pairs_up_to : Ex := .comp2 (.tup (.cons (.var 1) (.cons (.var 2) .nil))) (.nm 1) (.rng1 (.bin .add (.var 0) (.int 1))) .no (.nm 2) (.rng1 (.bin .sub (.bin .add (.var 0) (.int 1)) (.var 1))) .no [1, 2] [2]
def b_pairs_up_to : Sts := (.cons (.ret (C1_pairs_up_to)) .nil)
def F_pairs_up_to : Fd := ⟨"pairs_up_to", 1, ["most", "a", "b"], b_pairs_up_to⟩
/- can_find: 0=a 1=b 2=q 3=pairs 4=known 5=_ -/
def B1_can_find : Sts := (.cons (.asg (.nm 4) (.call 2 (.var 3) (.cons (.var 4) .nil))) .nil)
def L1_can_find : Dl.St := .for_ (.nm 5) (.rng1 (.var 2)) B1_can_find [5]
def b_can_find : Sts := (.cons (.asg (.nm 3) (.call 3 (.bin .add (.var 0) (.var 1)) .nil)) (.cons (.asg (.nm 4) (.call 2 (.var 3) (.cons (.dic true) .nil))) (.cons (L1_can_find) (.cons (.ret (.cmp .mem (.tup (.cons (.var 0) (.cons (.var 1) .nil))) (.var 4))) .nil))))
def F_can_find : Fd := ⟨"can_find", 3, ["a", "b", "q", "pairs", "known", "_"], b_can_find⟩
/- fewest_asked: 0=a 1=b 2=pairs 3=known 4=q -/
def B1_fewest_asked : Sts := (.cons (.asg (.nm 3) (.call 2 (.var 2) (.cons (.var 3) .nil))) (.cons (.aug .add 4 (.int 1)) .nil))
def L1_fewest_asked : Dl.St := .wh (.cmp .nmem (.tup (.cons (.var 0) (.cons (.var 1) .nil))) (.var 3)) B1_fewest_asked []
def b_fewest_asked : Sts := (.cons (.asg (.nm 2) (.call 3 (.bin .add (.var 0) (.var 1)) .nil)) (.cons (.asg (.nm 3) (.call 2 (.var 2) (.cons (.dic true) .nil))) (.cons (.asg (.nm 4) (.int 0)) (.cons (L1_fewest_asked) (.cons (.ret (.var 4)) .nil)))))
def F_fewest_asked : Fd := ⟨"fewest_asked", 2, ["a", "b", "pairs", "known", "q"], b_fewest_asked⟩
/- told_split: 0=a 1=b 2=pairs 3=known 4=before -/
def B1_told_split : Sts := (.cons (.asg (.nm 4) (.var 3)) (.cons (.asg (.nm 3) (.call 2 (.var 2) (.cons (.var 3) .nil))) (.cons (.ite (.cmp .mem (.tup (.cons (.var 0) (.cons (.var 1) .nil))) (.var 3)) (.cons (.ret (.call 1 (.var 0) (.cons (.var 1) (.cons (.var 4) .nil)))) .nil) .nil) .nil)))
def L1_told_split : Dl.St := .wh (.cmp .nmem (.tup (.cons (.var 0) (.cons (.var 1) .nil))) (.var 3)) B1_told_split [4]
def b_told_split : Sts := (.cons (.ite (.cmp .le (.bin .add (.var 0) (.var 1)) (.int 1)) (.cons (.ret (.non)) .nil) .nil) (.cons (.asg (.nm 2) (.call 3 (.bin .add (.var 0) (.var 1)) .nil)) (.cons (.asg (.nm 3) (.call 2 (.var 2) (.cons (.dic true) .nil))) (.cons (L1_told_split) (.cons (.ret (.non)) .nil)))))
def F_told_split : Fd := ⟨"told_split", 2, ["a", "b", "pairs", "known", "before"], b_told_split⟩
/- _law_cell: 0=script 1=k -/
def b__law_cell : Sts := (.cons (.ite (.cmp .lt (.var 1) (.bi .len (.var 0) .nil)) (.cons (.ret (.idx (.var 0) (.var 1))) .nil) .nil) (.cons (.ret (.bin .add (.bin .mul (.int 5) (.var 1)) (.int 3))) .nil))
def F__law_cell : Fd := ⟨"_law_cell", 2, ["script", "k"], b__law_cell⟩
/- _law_draws: 0=cell 1=count 2=rest 3=digits 4=seed 5=draws 6=k 7=mixed -/
def B1__law_draws : Sts := (.cons (.ite (.and (.var 3) (.one (.cmp .gt (.var 2) (.int 0)))) (.cons (.app 5 (.bin .mod (.bi .int (.var 2) .nil) (.int 5040))) (.cons (.asg (.nm 2) (.bin .div (.var 2) (.int 5040))) .nil)) (.cons (.asg (.nm 7) (.bin .mod (.bi .int (.bin .add (.bin .add (.bin .mul (.var 4) (.int 48271)) (.bin .mul (.bin .add (.var 6) (.int 1)) (.int 69621))) (.int 11)) .nil) (.int 2147483647))) (.cons (.asg (.nm 7) (.bin .mod (.bi .int (.bin .add (.bin .mul (.var 7) (.var 7)) (.bin .mul (.int 40692) (.bin .add (.var 6) (.int 3)))) .nil) (.int 2147483399))) (.cons (.app 5 (.bin .mod (.bi .int (.bin .div (.var 7) (.int 64)) .nil) (.int 5040))) .nil)))) .nil)
def L1__law_draws : Dl.St := .for_ (.nm 6) (.rng1 (.var 1)) B1__law_draws [6, 7]
def b__law_draws : Sts := (.cons (.asg (.nm 2) (.bi .abs (.bi .int (.var 0) .nil) .nil)) (.cons (.asg (.nm 3) (.cmp .ge (.var 2) (.bin .pow (.int 10) (.int 18)))) (.cons (.asg (.nm 4) (.var 2)) (.cons (.asg (.nm 5) (.lst .nil)) (.cons (L1__law_draws) (.cons (.ret (.var 5)) .nil))))))
def F__law_draws : Fd := ⟨"_law_draws", 2, ["cell", "count", "rest", "digits", "seed", "draws", "k", "mixed"], b__law_draws⟩
/- _law_is_integer: 0=value -/
def b__law_is_integer : Sts := (.cons (.ret (.and (.isa .int (.var 0)) (.one (.not (.isa .bool (.var 0)))))) .nil)
def F__law_is_integer : Fd := ⟨"_law_is_integer", 1, ["value"], b__law_is_integer⟩
/- _law_is: 0=value 1=due 2=at -/
def C1__law_is : Ex := .comp (.call 10 (.idx (.var 0) (.var 2)) (.cons (.idx (.var 1) (.var 2)) .nil)) (.nm 2) (.rng1 (.bi .len (.var 1) .nil)) .no [2]
def b__law_is : Sts := (.cons (.ite (.cmp .is (.var 1) (.non)) (.cons (.ret (.cmp .is (.var 0) (.non))) .nil) .nil) (.cons (.ite (.isa .bool (.var 1)) (.cons (.ret (.and (.isa .bool (.var 0)) (.one (.cmp .eq (.var 0) (.var 1))))) .nil) .nil) (.cons (.ite (.isa .int (.var 1)) (.cons (.ret (.and (.call 9 (.var 0) .nil) (.one (.cmp .eq (.var 0) (.var 1))))) .nil) .nil) (.cons (.ite (.isa .str (.var 1)) (.cons (.ret (.and (.isa .str (.var 0)) (.one (.cmp .eq (.var 0) (.var 1))))) .nil) .nil) (.cons (.ite (.or (.not (.isa .tuple (.var 0))) (.one (.cmp .ne (.bi .len (.var 0) .nil) (.bi .len (.var 1) .nil)))) (.cons (.ret (.bl false)) .nil) .nil) (.cons (.ret (.bi .all (C1__law_is) .nil)) .nil))))))
def F__law_is : Fd := ⟨"_law_is", 2, ["value", "due", "at"], b__law_is⟩
/- _law_levels: 0=most 1=q 2=levels 3=turn 4=level 5=a 6=b 7=good -/
def B1__law_levels : Sts := (.cons (.asg (.nm 7) (.cmp .le (.bin .add (.var 5) (.var 6)) (.int 1))) (.cons (.ite (.and (.not (.var 7)) (.one (.cmp .gt (.var 3) (.int 0)))) (.cons (.asg (.nm 7) (.cmp .nis (.call 12 (.var 5) (.cons (.var 6) (.cons (.idx (.var 2) (.neg (.int 1))) .nil))) (.non))) .nil) .nil) (.cons (.setD 4 (.tup (.cons (.var 5) (.cons (.var 6) .nil))) (.var 7)) .nil)))
def L1__law_levels : Dl.St := .for_ (.nm 6) (.rng1 (.bin .sub (.bin .add (.var 0) (.int 1)) (.var 5))) B1__law_levels [6, 7]
def B2__law_levels : Sts := (.cons (L1__law_levels) .nil)
def L2__law_levels : Dl.St := .for_ (.nm 5) (.rng1 (.bin .add (.var 0) (.int 1))) B2__law_levels [5, 6, 7]
def B3__law_levels : Sts := (.cons (.asg (.nm 4) (.dic true)) (.cons (L2__law_levels) (.cons (.app 2 (.var 4)) .nil)))
def L3__law_levels : Dl.St := .for_ (.nm 3) (.rng1 (.bin .add (.var 1) (.int 1))) B3__law_levels [3, 4, 5, 6, 7]
def b__law_levels : Sts := (.cons (.asg (.nm 2) (.lst .nil)) (.cons (L3__law_levels) (.cons (.ret (.var 2)) .nil)))
def F__law_levels : Fd := ⟨"_law_levels", 2, ["most", "q", "levels", "turn", "level", "a", "b", "good"], b__law_levels⟩
/- _law_split: 0=a 1=b 2=level 3=x 4=y -/
def B1__law_split : Sts := (.cons (.ite (.and (.dget (.var 2) (.tup (.cons (.var 3) (.cons (.bin .add (.bin .sub (.var 0) (.var 3)) (.var 4)) .nil)))) (.one (.dget (.var 2) (.tup (.cons (.bin .sub (.var 0) (.var 3)) (.cons (.bin .sub (.bin .add (.var 3) (.var 1)) (.var 4)) .nil)))))) (.cons (.ret (.tup (.cons (.var 3) (.cons (.var 4) .nil)))) .nil) .nil) .nil)
def L1__law_split : Dl.St := .for_ (.nm 4) (.rng1 (.bin .add (.var 1) (.int 1))) B1__law_split [4]
def B2__law_split : Sts := (.cons (L1__law_split) .nil)
def L2__law_split : Dl.St := .for_ (.nm 3) (.rng1 (.bin .add (.var 0) (.int 1))) B2__law_split [3, 4]
def b__law_split : Sts := (.cons (L2__law_split) (.cons (.ret (.non)) .nil))
def F__law_split : Fd := ⟨"_law_split", 3, ["a", "b", "level", "x", "y"], b__law_split⟩
/- _law_weighs: 0=a 1=b 2=q 3=size 4=turn -/
def B1__law_weighs : Sts := (.cons (.asg (.nm 3) (.bin .mul (.var 3) (.int 2))) .nil)
def L1__law_weighs : Dl.St := .for_ (.nm 4) (.rng1 (.var 2)) B1__law_weighs [4]
def b__law_weighs : Sts := (.cons (.asg (.nm 3) (.int 1)) (.cons (L1__law_weighs) (.cons (.ret (.cmp .ge (.var 3) (.bin .add (.bin .mul (.var 0) (.bin .add (.var 2) (.int 1))) (.var 1)))) .nil)))
def F__law_weighs : Fd := ⟨"_law_weighs", 3, ["a", "b", "q", "size", "turn"], b__law_weighs⟩
/- _law_fewest: 0=a 1=b 2=levels 3=q -/
def C1__law_fewest : Ex := .comp (.var 3) (.nm 3) (.rng1 (.bi .len (.var 2) .nil)) (.yes (.dget (.idx (.var 2) (.var 3)) (.tup (.cons (.var 0) (.cons (.var 1) .nil))))) [3]
def b__law_fewest : Sts := (.cons (.ret (.bi .min (C1__law_fewest) .nil)) .nil)
def F__law_fewest : Fd := ⟨"_law_fewest", 3, ["a", "b", "levels", "q"], b__law_fewest⟩
/- _law_numbers: 0=a 1=b 2=levels 3=fewest 4=split 5=q -/
def B1__law_numbers : Sts := (.cons (.ite (.and (.cmp .ge (.var 5) (.int 0)) (.one (.not (.call 10 (.call 4 (.var 0) (.cons (.var 1) (.cons (.var 5) .nil))) (.cons (.cmp .ge (.var 5) (.var 3)) .nil))))) (.cons (.ret (.bl false)) .nil) .nil) .nil)
def L1__law_numbers : Dl.St := .for_ (.nm 5) (.seq (.tup (.cons (.int 0) (.cons (.bin .sub (.var 3) (.int 1)) (.cons (.var 3) (.cons (.bin .add (.var 3) (.int 1)) .nil)))))) B1__law_numbers [5]
def b__law_numbers : Sts := (.cons (.asg (.nm 3) (.call 14 (.var 0) (.cons (.var 1) (.cons (.var 2) .nil)))) (.cons (.ite (.or (.not (.call 10 (.call 5 (.var 0) (.cons (.var 1) .nil)) (.cons (.var 3) .nil))) (.one (.not (.call 13 (.var 0) (.cons (.var 1) (.cons (.var 3) .nil)))))) (.cons (.ret (.bl false)) .nil) .nil) (.cons (.asg (.nm 4) (.ite (.cmp .gt (.bin .add (.var 0) (.var 1)) (.int 1)) (.call 12 (.var 0) (.cons (.var 1) (.cons (.idx (.var 2) (.bin .sub (.var 3) (.int 1))) .nil))) (.non))) (.cons (.ite (.not (.call 10 (.call 6 (.var 0) (.cons (.var 1) .nil)) (.cons (.var 4) .nil))) (.cons (.ret (.bl false)) .nil) .nil) (.cons (L1__law_numbers) (.cons (.ret (.bl true)) .nil))))))
def F__law_numbers : Fd := ⟨"_law_numbers", 3, ["a", "b", "levels", "fewest", "split", "q"], b__law_numbers⟩
/- _law_left: 0=sure 1=doubted 2=question 3=answer 4=kept 5=moved 6=word -/
def B1__law_left : Sts := (.cons (.ite (.cmp .eq (.cmp .mem (.var 6) (.var 2)) (.var 3)) (.cons (.app 4 (.var 6)) .nil) (.cons (.app 5 (.var 6)) .nil)) .nil)
def L1__law_left : Dl.St := .for_ (.nm 6) (.seq (.var 0)) B1__law_left [6]
def C1__law_left : Ex := .comp (.var 6) (.nm 6) (.seq (.var 1)) (.yes (.cmp .eq (.cmp .mem (.var 6) (.var 2)) (.var 3))) [6]
def b__law_left : Sts := (.cons (.asg (.nm 4) (.lst .nil)) (.cons (.asg (.nm 5) (.lst .nil)) (.cons (L1__law_left) (.cons (.asg (.nm 5) (.bin .add (.var 5) (C1__law_left))) (.cons (.ret (.tup (.cons (.bi .tuple (.var 4) .nil) (.cons (.bi .tuple (.bi .sorted (.var 5) .nil) .nil) .nil)))) .nil)))))
def F__law_left : Fd := ⟨"_law_left", 4, ["sure", "doubted", "question", "answer", "kept", "moved", "word"], b__law_left⟩
/- _law_search: 0=sure 1=doubted 2=draws 3=levels 4=due 5=turn 6=fewest 7=split 8=question 9=answer 10=left -/
def B1__law_search : Sts := (.cons (.ite (.cmp .gt (.bin .add (.bi .len (.var 0) .nil) (.bi .len (.var 1) .nil)) (.int 1)) (.cons (.asg (.nm 6) (.call 14 (.bi .len (.var 0) .nil) (.cons (.bi .len (.var 1) .nil) (.cons (.var 3) .nil)))) (.cons (.asg (.nm 7) (.call 12 (.bi .len (.var 0) .nil) (.cons (.bi .len (.var 1) .nil) (.cons (.idx (.var 3) (.bin .sub (.var 6) (.int 1))) .nil)))) (.cons (.ite (.not (.call 10 (.call 6 (.bi .len (.var 0) .nil) (.cons (.bi .len (.var 1) .nil) .nil)) (.cons (.var 7) .nil))) (.cons (.ret (.bl false)) .nil) .nil) (.cons (.asg (.nm 8) (.bi .tuple (.bi .sorted (.bin .add (.bin .add (.slc (.var 0) (.yes (.bin .sub (.bi .len (.var 0) .nil) (.idx (.var 7) (.int 0)))) .no) (.slc (.var 1) .no (.yes (.idx (.var 7) (.int 1))))) (.tup (.cons (.str "zebra") .nil))) .nil) .nil)) (.cons (.asg (.nm 9) (.cmp .eq (.bin .mod (.bi .int (.idx (.var 2) (.var 5)) .nil) (.int 2)) (.int 0))) (.cons (.asg (.nm 10) (.call 16 (.var 0) (.cons (.var 1) (.cons (.var 8) (.cons (.var 9) .nil))))) (.cons (.ite (.not (.call 10 (.call 0 (.var 0) (.cons (.var 1) (.cons (.var 8) (.cons (.var 9) .nil)))) (.cons (.var 10) .nil))) (.cons (.ret (.bl false)) .nil) .nil) (.cons (.asg (.tp [0, 1]) (.var 10)) .nil)))))))) .nil) .nil)
def L1__law_search : Dl.St := .for_ (.nm 5) (.rng1 (.var 4)) B1__law_search [5, 6, 7, 8, 9, 10]
def b__law_search : Sts := (.cons (.asg (.nm 4) (.call 14 (.bi .len (.var 0) .nil) (.cons (.bi .len (.var 1) .nil) (.cons (.var 3) .nil)))) (.cons (L1__law_search) (.cons (.ret (.cmp .le (.bin .add (.bi .len (.var 0) .nil) (.bi .len (.var 1) .nil)) (.int 1))) .nil)))
def F__law_search : Fd := ⟨"_law_search", 4, ["sure", "doubted", "draws", "levels", "due", "turn", "fewest", "split", "question", "answer", "left"], b__law_search⟩
/- _law_answers: 0=sure 1=doubted 2=words 3=draws 4=turn 5=number 6=question 7=word 8=answer 9=left -/
def B1__law_answers : Sts := (.cons (.ite (.cmp .eq (.bin .mod (.bi .int (.var 5) .nil) (.int 2)) (.int 1)) (.cons (.app 6 (.var 7)) .nil) .nil) (.cons (.asg (.nm 5) (.bin .div (.var 5) (.int 2))) .nil))
def L1__law_answers : Dl.St := .for_ (.nm 7) (.seq (.bin .add (.var 2) (.tup (.cons (.str "zebra") .nil)))) B1__law_answers [7]
def B2__law_answers : Sts := (.cons (.asg (.nm 9) (.call 16 (.var 0) (.cons (.var 1) (.cons (.var 6) (.cons (.var 8) .nil))))) (.cons (.ite (.not (.call 10 (.call 0 (.var 0) (.cons (.var 1) (.cons (.bi .tuple (.var 6) .nil) (.cons (.var 8) .nil)))) (.cons (.var 9) .nil))) (.cons (.ret (.bl false)) .nil) .nil) .nil))
def L2__law_answers : Dl.St := .for_ (.nm 8) (.seq (.tup (.cons (.bl true) (.cons (.bl false) .nil)))) B2__law_answers [8, 9]
def B3__law_answers : Sts := (.cons (.asg (.nm 5) (.bin .add (.bin .mul (.bi .int (.idx (.var 3) (.var 4)) .nil) (.int 7)) (.var 4))) (.cons (.asg (.nm 6) (.lst .nil)) (.cons (L1__law_answers) (.cons (L2__law_answers) .nil))))
def L3__law_answers : Dl.St := .for_ (.nm 4) (.rng1 (.int 4)) B3__law_answers [4, 5, 6, 7, 8, 9]
def b__law_answers : Sts := (.cons (L3__law_answers) (.cons (.ret (.bl true)) .nil))
def F__law_answers : Fd := ⟨"_law_answers", 4, ["sure", "doubted", "words", "draws", "turn", "number", "question", "word", "answer", "left"], b__law_answers⟩
/- law: 0=script 1=draws 2=levels 3=words 4=k 5=a 6=b 7=one 8=other 9=part 10=kinds 11=sure 12=doubted 13=at -/
def B1_law : Sts := (.cons (.asg (.nm 5) (.bin .mod (.bi .int (.idx (.var 1) (.var 4)) .nil) (.bin .sub (.int 7) (.bin .mul (.int 2) (.var 4))))) (.cons (.asg (.nm 6) (.bin .mod (.bi .int (.idx (.var 1) (.bin .add (.int 3) (.var 4))) .nil) (.bin .sub (.int 8) (.var 5)))) (.cons (.ite (.not (.call 15 (.var 5) (.cons (.var 6) (.cons (.var 2) .nil)))) (.cons (.ret (.bl false)) .nil) .nil) .nil)))
def L1_law : Dl.St := .for_ (.nm 4) (.rng1 (.int 3)) B1_law [4, 5, 6]
def B2_law : Sts := (.cons (.ite (.not (.call 15 (.var 7) (.cons (.var 8) (.cons (.var 2) .nil)))) (.cons (.ret (.bl false)) .nil) .nil) .nil)
def L2_law : Dl.St := .for_ (.tp [7, 8]) (.seq (.tup (.cons (.tup (.cons (.var 5) (.cons (.bin .mod (.bi .int (.idx (.var 1) (.int 7)) .nil) (.bin .sub (.int 11) (.var 5))) .nil))) (.cons (.tup (.cons (.int 2) (.cons (.int 0) .nil))) (.cons (.tup (.cons (.int 0) (.cons (.int 1) .nil))) .nil))))) B2_law [7, 8]
def C1_law : Ex := .comp (.bin .mod (.bi .int (.idx (.var 9) (.var 13)) .nil) (.idx (.tup (.cons (.int 3) (.cons (.int 2) (.cons (.int 5) .nil)))) (.bin .mod (.bi .int (.idx (.var 1) (.bin .add (.int 8) (.var 4))) .nil) (.int 3)))) (.nm 13) (.rng1 (.int 10)) .no [13]
def C2_law : Ex := .comp (.idx (.var 3) (.var 13)) (.nm 13) (.rng1 (.int 10)) (.yes (.cmp .eq (.idx (.var 10) (.var 13)) (.int 0))) [13]
def C3_law : Ex := .comp (.idx (.var 3) (.var 13)) (.nm 13) (.rng1 (.int 10)) (.yes (.cmp .eq (.idx (.var 10) (.var 13)) (.int 1))) [13]
def B3_law : Sts := (.cons (.asg (.nm 9) (.call 8 (.call 7 (.var 0) (.cons (.bin .add (.int 1) (.var 4)) .nil)) (.cons (.int 30) .nil))) (.cons (.asg (.nm 10) (C1_law)) (.cons (.asg (.nm 11) (.bi .tuple (C2_law) .nil)) (.cons (.asg (.nm 12) (.bi .tuple (C3_law) .nil)) (.cons (.ite (.not (.call 17 (.var 11) (.cons (.var 12) (.cons (.slc (.var 1) (.yes (.bin .add (.int 10) (.bin .mul (.int 9) (.var 4)))) .no) (.cons (.var 2) .nil))))) (.cons (.ret (.bl false)) .nil) .nil) (.cons (.ite (.not (.call 18 (.var 11) (.cons (.var 12) (.cons (.var 3) (.cons (.slc (.var 9) (.yes (.int 10)) .no) .nil))))) (.cons (.ret (.bl false)) .nil) .nil) .nil))))))
def L3_law : Dl.St := .for_ (.nm 4) (.rng1 (.int 2)) B3_law [4, 9, 10, 11, 12]
def b_law : Sts := (.cons (.asg (.nm 1) (.call 8 (.call 7 (.var 0) (.cons (.int 0) .nil)) (.cons (.int 40) .nil))) (.cons (.asg (.nm 2) (.call 11 (.int 10) (.cons (.int 9) .nil))) (.cons (.asg (.nm 3) (.tup (.cons (.str "ant") (.cons (.str "bat") (.cons (.str "cow") (.cons (.str "doe") (.cons (.str "eel") (.cons (.str "fly") (.cons (.str "gnat") (.cons (.str "hen") (.cons (.str "ibis") (.cons (.str "jay") .nil)))))))))))) (.cons (L1_law) (.cons (.asg (.nm 5) (.bin .mod (.bi .int (.idx (.var 1) (.int 6)) .nil) (.int 11))) (.cons (L2_law) (.cons (L3_law) (.cons (.ret (.bl true)) .nil))))))))
def F_law : Fd := ⟨"law", 1, ["script", "draws", "levels", "words", "k", "a", "b", "one", "other", "part", "kinds", "sure", "doubted", "at"], b_law⟩
def G : Gx := ⟨[], ["tuple", "sorted", "range", "len", "abs", "int", "isinstance", "bool", "str", "all", "min"], [("left_by_answer", 4), ("good_split", 3), ("next_known", 2), ("pairs_up_to", 1), ("can_find", 3), ("fewest_asked", 2), ("told_split", 2), ("_law_cell", 2), ("_law_draws", 2), ("_law_is_integer", 1), ("_law_is", 2), ("_law_levels", 2), ("_law_split", 3), ("_law_weighs", 3), ("_law_fewest", 3), ("_law_numbers", 3), ("_law_left", 4), ("_law_search", 4), ("_law_answers", 4), ("law", 1)]⟩
def Pf : List Fd := [F_left_by_answer, F_good_split, F_next_known, F_pairs_up_to, F_can_find, F_fewest_asked, F_told_split, F__law_cell, F__law_draws, F__law_is_integer, F__law_is, F__law_levels, F__law_split, F__law_weighs, F__law_fewest, F__law_numbers, F__law_left, F__law_search, F__law_answers, F_law]
def top (i : Nat) : Stmt := PySem.Challenge.pw_wordmoot_k47_whole_searches_with_one_lie.main.body.getD i (.Pass ⟨0, 0, 0, 0⟩)
def mkD (x : Str) (i : Nat) : He.DefD := ⟨(x, none), x, x, defArgs (top i), defBody (top i), defScope (top i), [], []⟩
def defs : List He.DefD := [mkD "left_by_answer" 1, mkD "good_split" 2, mkD "next_known" 3, mkD "pairs_up_to" 4, mkD "can_find" 5, mkD "fewest_asked" 6, mkD "told_split" 7, mkD "_law_cell" 9, mkD "_law_draws" 10, mkD "_law_is_integer" 11, mkD "_law_is" 12, mkD "_law_levels" 13, mkD "_law_split" 14, mkD "_law_weighs" 15, mkD "_law_fewest" 16, mkD "_law_numbers" 17, mkD "_law_left" 18, mkD "_law_search" 19, mkD "_law_answers" 20, mkD "law" 21]

abbrev fa : List He.Fa := factsOf G Pf
theorem chk_all : chkAll G Pf defs = true := by decide +kernel
theorem bind_all : BindAll Pf defs := by
  refine ⟨fun _ _ _ _ _ _ us hl => match us, hl with | [_, _, _, _], _ => rfl, fun _ _ _ _ _ _ us hl => match us, hl with | [_, _, _], _ => rfl, fun _ _ _ _ _ _ us hl => match us, hl with | [_, _], _ => rfl, fun _ _ _ _ _ _ us hl => match us, hl with | [_], _ => rfl, fun _ _ _ _ _ _ us hl => match us, hl with | [_, _, _], _ => rfl, fun _ _ _ _ _ _ us hl => match us, hl with | [_, _], _ => rfl, fun _ _ _ _ _ _ us hl => match us, hl with | [_, _], _ => rfl, fun _ _ _ _ _ _ us hl => match us, hl with | [_, _], _ => rfl, fun _ _ _ _ _ _ us hl => match us, hl with | [_, _], _ => rfl, fun _ _ _ _ _ _ us hl => match us, hl with | [_], _ => rfl, fun _ _ _ _ _ _ us hl => match us, hl with | [_, _], _ => rfl, fun _ _ _ _ _ _ us hl => match us, hl with | [_, _], _ => rfl, fun _ _ _ _ _ _ us hl => match us, hl with | [_, _, _], _ => rfl, fun _ _ _ _ _ _ us hl => match us, hl with | [_, _, _], _ => rfl, fun _ _ _ _ _ _ us hl => match us, hl with | [_, _, _], _ => rfl, fun _ _ _ _ _ _ us hl => match us, hl with | [_, _, _], _ => rfl, fun _ _ _ _ _ _ us hl => match us, hl with | [_, _, _, _], _ => rfl, fun _ _ _ _ _ _ us hl => match us, hl with | [_, _, _, _], _ => rfl, fun _ _ _ _ _ _ us hl => match us, hl with | [_, _, _, _], _ => rfl, fun _ _ _ _ _ _ us hl => match us, hl with | [_], _ => rfl, trivial⟩
abbrev R : PySem.W.OpenRow := PySem.W.OpenLaw.row PySem.Challenge.rw_wordmoot_k47_whole_searches_with_one_lie
abbrev hk : PySem.W.Hook := He.hookD 4 fa defs
def ob (s : PySem.W.SharedT) : He.AlD := He.obsDG 4 fa defs (HandSHeadRun.getT s)
theorem ob_eq (s : PySem.W.SharedT) : ob s = hk.obs s.abs := He.obsDG_eq (HandSHeadRun.getT_eq s)
def loose0 : List PySem.Str := ["left_by_answer", "good_split", "next_known", "pairs_up_to", "can_find", "fewest_asked", "told_split", "_law_cell", "_law_draws", "_law_is_integer", "_law_is", "_law_levels", "_law_split", "_law_weighs", "_law_fewest", "_law_numbers", "_law_left", "_law_search", "_law_answers"]
def loose : List PySem.Str := loose0
theorem run (w : World) : HandSHeadRun.RunEq R (PySem.W.view R.prog [21]) hk ob 20000 loose w := by
  intro os
  kernel_rfl
def iLaw : Nat := 19
end K47

set_option Elab.async false
set_option linter.all false
set_option maxRecDepth 100000
set_option maxHeartbeats 2000000
namespace K47
open Dl PySem
/-! ### the search's plain law -/
theorem lp_pow (q : Nat) (s : Int) (n : Nat) : lp (α := Nat) (fun _ s => Lp.nx (s * 2)) (List.range' n q) s = Lp.nx (s * 2 ^ q) := by
  induction q generalizing s n with
  | zero => simp [lp]
  | succ q ih =>
    rw [List.range'_succ]
    show lp _ _ (s * 2) = _
    rw [ih, Int.pow_succ, Int.mul_assoc, Int.mul_comm 2]
theorem weighs_L (Φ : Fs) (a b q : Nat) (hq : q ≤ 60) : evS G Φ L1__law_weighs [some (false, .int a), some (false, .int b), some (false, .int q), some (false, .int 1), none] = some (.nx [some (false, .int a), some (false, .int b), some (false, .int q), some (false, .int (2 ^ q)), none]) := by
  unfold L1__law_weighs
  rw [for_rng1 (n := q) (by simp -implicitDefEqProofs -dsimp [e_var, e_int, e_str, e_bl, e_non, e_glb, e_bin, e_cmp, e_chain, e_neg, e_not, e_and, e_or, e_one, e_ite, e_tup, e_lst, e_dic, e_idx, e_dget, e_slc, e_get1, e_get2, e_call, e_bi, e_isa, e_comp, e_comp2, e_dcomp, es_nil, es_cons, eo_no, eo_yes, ec_no, ec_yes, ei_seq, ei_rng1, ei_rng2, s_asg, s_aug, s_setL, s_setD, s_app, s_ext, s_pop, s_ite, s_for_, s_wh, s_ret, s_retN, s_brk, s_cnt, s_pas, ss_nil, ss_cons, sq_nx, sq_rt, sq_bk, sq_ct, rn_nx, rn_rt, evAsg, startG, putNm, giveUp, Dl.at_non, Dl.at_bl, Dl.at_int, Dl.at_str, Dl.at_lst, Dl.at_tup, Dl.at_dic, Dl.mt_non, Dl.mt_bl, Dl.mt_int, Dl.mt_str, Dl.mt_lst, Dl.mt_tup, Dl.mt_dic, fre, esc, escs, esci, getG, asI, asB, dTru, dNot, dNeg, BOp.fo, COp.fo, Bi.fo, onOwn, evApp, evExt, evSetL, evSetD, evAug, AOp.fo, dApp, dExt, dTuple, dList, dInt, dAbs, dLen, dItems, killG, unown, offG, Tg.put, setAll, blkG, wipeG, stepC, stepF, stepD, vAnd, vOr, vChain]) (by omega)]
  have := evFor_lp (t := .nm 4) (body := evSs G Φ B1__law_weighs) (kl := [4]) (fun i : Nat => PyData.int i) (fun s : Int => [some (false, .int a), some (false, .int b), some (false, .int q), some (false, .int s), none]) (fun _ s => .nx (s * 2)) (fun _ _ => True)
      (fun x xs s _ => ⟨_, .nx [some (false, .int a), some (false, .int b), some (false, .int q), some (false, .int (s * 2)), some (false, .int x)], rfl, by simp -implicitDefEqProofs -dsimp [e_var, e_int, e_str, e_bl, e_non, e_glb, e_bin, e_cmp, e_chain, e_neg, e_not, e_and, e_or, e_one, e_ite, e_tup, e_lst, e_dic, e_idx, e_dget, e_slc, e_get1, e_get2, e_call, e_bi, e_isa, e_comp, e_comp2, e_dcomp, es_nil, es_cons, eo_no, eo_yes, ec_no, ec_yes, ei_seq, ei_rng1, ei_rng2, s_asg, s_aug, s_setL, s_setD, s_app, s_ext, s_pop, s_ite, s_for_, s_wh, s_ret, s_retN, s_brk, s_cnt, s_pas, ss_nil, ss_cons, sq_nx, sq_rt, sq_bk, sq_ct, rn_nx, rn_rt, evAsg, startG, putNm, giveUp, Dl.at_non, Dl.at_bl, Dl.at_int, Dl.at_str, Dl.at_lst, Dl.at_tup, Dl.at_dic, Dl.mt_non, Dl.mt_bl, Dl.mt_int, Dl.mt_str, Dl.mt_lst, Dl.mt_tup, Dl.mt_dic, fre, esc, escs, esci, getG, asI, asB, dTru, dNot, dNeg, BOp.fo, COp.fo, Bi.fo, onOwn, evApp, evExt, evSetL, evSetD, evAug, AOp.fo, dApp, dExt, dTuple, dList, dInt, dAbs, dLen, dItems, killG, unown, offG, Tg.put, setAll, blkG, wipeG, stepC, stepF, stepD, vAnd, vOr, vChain, B1__law_weighs, dMul_ii], by simp [Fit, killG], fun _ _ => trivial⟩) (List.range q) 1 trivial
  refine Eq.trans this ?_
  rw [List.range_eq_range', lp_pow]
  simp [Lp.fw]
theorem weighs {k : Nat} (hk : 1 ≤ k) (a b q : Nat) (hq : q ≤ 60) (ha : a ≤ 1000) : den G Pf k 13 [.int a, .int b, .int q] = some (.bool (decide ((2:Int) ^ q ≥ (a:Int) * ((q:Int) + 1) + (b:Int)))) := by
  rw [den_eq (fd := F__law_weighs) hk rfl rfl]
  simp -implicitDefEqProofs -dsimp [F__law_weighs, b__law_weighs, weighs_L _ _ _ _ hq, e_var, e_int, e_str, e_bl, e_non, e_glb, e_bin, e_cmp, e_chain, e_neg, e_not, e_and, e_or, e_one, e_ite, e_tup, e_lst, e_dic, e_idx, e_dget, e_slc, e_get1, e_get2, e_call, e_bi, e_isa, e_comp, e_comp2, e_dcomp, es_nil, es_cons, eo_no, eo_yes, ec_no, ec_yes, ei_seq, ei_rng1, ei_rng2, s_asg, s_aug, s_setL, s_setD, s_app, s_ext, s_pop, s_ite, s_for_, s_wh, s_ret, s_retN, s_brk, s_cnt, s_pas, ss_nil, ss_cons, sq_nx, sq_rt, sq_bk, sq_ct, rn_nx, rn_rt, evAsg, startG, putNm, giveUp, Dl.at_non, Dl.at_bl, Dl.at_int, Dl.at_str, Dl.at_lst, Dl.at_tup, Dl.at_dic, Dl.mt_non, Dl.mt_bl, Dl.mt_int, Dl.mt_str, Dl.mt_lst, Dl.mt_tup, Dl.mt_dic, fre, esc, escs, esci, getG, asI, asB, dTru, dNot, dNeg, BOp.fo, COp.fo, Bi.fo, onOwn, evApp, evExt, evSetL, evSetD, evAug, AOp.fo, dApp, dExt, dTuple, dList, dInt, dAbs, dLen, dItems, killG, unown, offG, Tg.put, setAll, blkG, wipeG, stepC, stepF, stepD, vAnd, vOr, vChain, dMul_ii _ _ (.inl ⟨show -2 ^ 64 < (a : Int) by omega, show (a : Int) < 2 ^ 64 by omega⟩)]
end K47

set_option Elab.async false
set_option linter.all false
set_option maxRecDepth 100000
set_option maxHeartbeats 2000000
namespace K47
open Dl PySem
/-! ### splits and what is known -/
abbrev II := Int × Int
/-- the known pairs as a dict -/
def eK (K : List II) : D := eDic (K.map fun p => (p, PyData.bool true))
def hasK (K : List II) (p : II) : Bool := decide (p ∈ K)
theorem eK_any (K : List II) (q : II) : ((K.map fun p => (p, PyData.bool true)).any fun e => decide (e.1 = q)) = hasK K q := by
  unfold hasK
  rw [List.any_map]
  rw [Bool.eq_iff_iff]
  simp
theorem in_K (K : List II) (i j : Int) : dIn (.tuple [.int i, .int j]) (eK K) = some (.bool (hasK K (i, j))) := by
  have := dIn_ky (κ := II) (K.map fun p => (p, PyData.bool true)) (i, j)
  rw [eK_any] at this
  exact this
theorem nin_K (K : List II) (i j : Int) : dNotIn (.tuple [.int i, .int j]) (eK K) = some (.bool (!hasK K (i, j))) := by
  have := dNotIn_ky (κ := II) (K.map fun p => (p, PyData.bool true)) (i, j)
  rw [eK_any] at this
  exact this
/-- the first split that a test likes -/
def spy (c : II → II → Bool) (a b x : Nat) : Option II := (List.range (b + 1)).findSome? fun (y : Nat) => if c ((x : Int), (y : Int)) ((a : Int), (b : Int)) = true then some ((x : Int), (y : Int)) else none
def spx (c : II → II → Bool) (a b : Nat) : Option II := (List.range (a + 1)).findSome? fun (x : Nat) => spy c a b x
def eO : Option II → D
  | none => .none
  | some p => eII p
def cK (K : List II) (p q : II) : Bool := hasK K (p.1, p.2 + q.1 - p.1) && hasK K (q.1 - p.1, q.2 - p.2 + p.1)
theorem gs1 (Φ : Fs) (a b x : Nat) (hb : b ≤ 1000) (K : List II) : evS G Φ L1_good_split [some (false, .int a), some (false, .int b), some (false, eK K), some (false, .int x), none] = some (lkF eII (spy (cK K) a b x) [some (false, .int a), some (false, .int b), some (false, eK K), some (false, .int x), none]) := by
  unfold L1_good_split
  rw [for_rng1 (n := b + 1) (by simp -implicitDefEqProofs -dsimp [e_var, e_int, e_str, e_bl, e_non, e_glb, e_bin, e_cmp, e_chain, e_neg, e_not, e_and, e_or, e_one, e_ite, e_tup, e_lst, e_dic, e_idx, e_dget, e_slc, e_get1, e_get2, e_call, e_bi, e_isa, e_comp, e_comp2, e_dcomp, es_nil, es_cons, eo_no, eo_yes, ec_no, ec_yes, ei_seq, ei_rng1, ei_rng2, s_asg, s_aug, s_setL, s_setD, s_app, s_ext, s_pop, s_ite, s_for_, s_wh, s_ret, s_retN, s_brk, s_cnt, s_pas, ss_nil, ss_cons, sq_nx, sq_rt, sq_bk, sq_ct, rn_nx, rn_rt, evAsg, startG, putNm, giveUp, Dl.at_non, Dl.at_bl, Dl.at_int, Dl.at_str, Dl.at_lst, Dl.at_tup, Dl.at_dic, Dl.mt_non, Dl.mt_bl, Dl.mt_int, Dl.mt_str, Dl.mt_lst, Dl.mt_tup, Dl.mt_dic, fre, esc, escs, esci, getG, asI, asB, dTru, dNot, dNeg, BOp.fo, COp.fo, Bi.fo, onOwn, evApp, evExt, evSetL, evSetD, evAug, AOp.fo, dApp, dExt, dTuple, dList, dInt, dAbs, dLen, dItems, killG, unown, offG, Tg.put, setAll, blkG, wipeG, stepC, stepF, stepD, vAnd, vOr, vChain]) (by omega)]
  refine Eq.trans (evFor_lk (t := .nm 4) (body := evSs G Φ B1_good_split) (kl := [4]) (fun i : Nat => PyData.int i) (fun (y : Nat) => if cK K ((x : Int), (y : Int)) ((a : Int), (b : Int)) = true then some ((x : Int), (y : Int)) else none) eII
    (fun y => [some (false, .int a), some (false, .int b), some (false, eK K), some (false, .int x), some (false, .int y)]) (fun y => [some (false, .int a), some (false, .int b), some (false, eK K), some (false, .int x), some (false, .int y)]) (List.range (b + 1)) (fun y hy => ⟨rfl, ?_, by simp -implicitDefEqProofs -dsimp [e_var, e_int, e_str, e_bl, e_non, e_glb, e_bin, e_cmp, e_chain, e_neg, e_not, e_and, e_or, e_one, e_ite, e_tup, e_lst, e_dic, e_idx, e_dget, e_slc, e_get1, e_get2, e_call, e_bi, e_isa, e_comp, e_comp2, e_dcomp, es_nil, es_cons, eo_no, eo_yes, ec_no, ec_yes, ei_seq, ei_rng1, ei_rng2, s_asg, s_aug, s_setL, s_setD, s_app, s_ext, s_pop, s_ite, s_for_, s_wh, s_ret, s_retN, s_brk, s_cnt, s_pas, ss_nil, ss_cons, sq_nx, sq_rt, sq_bk, sq_ct, rn_nx, rn_rt, evAsg, startG, putNm, giveUp, Dl.at_non, Dl.at_bl, Dl.at_int, Dl.at_str, Dl.at_lst, Dl.at_tup, Dl.at_dic, Dl.mt_non, Dl.mt_bl, Dl.mt_int, Dl.mt_str, Dl.mt_lst, Dl.mt_tup, Dl.mt_dic, fre, esc, escs, esci, getG, asI, asB, dTru, dNot, dNeg, BOp.fo, COp.fo, Bi.fo, onOwn, evApp, evExt, evSetL, evSetD, evAug, AOp.fo, dApp, dExt, dTuple, dList, dInt, dAbs, dLen, dItems, killG, unown, offG, Tg.put, setAll, blkG, wipeG, stepC, stepF, stepD, vAnd, vOr, vChain]⟩)) rfl
  unfold cK
  cases h1 : hasK K ((x : Int), (y : Int) + a - x) <;> cases h2 : hasK K ((a : Int) - x, (b : Int) - y + x) <;> simp -implicitDefEqProofs -dsimp [e_var, e_int, e_str, e_bl, e_non, e_glb, e_bin, e_cmp, e_chain, e_neg, e_not, e_and, e_or, e_one, e_ite, e_tup, e_lst, e_dic, e_idx, e_dget, e_slc, e_get1, e_get2, e_call, e_bi, e_isa, e_comp, e_comp2, e_dcomp, es_nil, es_cons, eo_no, eo_yes, ec_no, ec_yes, ei_seq, ei_rng1, ei_rng2, s_asg, s_aug, s_setL, s_setD, s_app, s_ext, s_pop, s_ite, s_for_, s_wh, s_ret, s_retN, s_brk, s_cnt, s_pas, ss_nil, ss_cons, sq_nx, sq_rt, sq_bk, sq_ct, rn_nx, rn_rt, evAsg, startG, putNm, giveUp, Dl.at_non, Dl.at_bl, Dl.at_int, Dl.at_str, Dl.at_lst, Dl.at_tup, Dl.at_dic, Dl.mt_non, Dl.mt_bl, Dl.mt_int, Dl.mt_str, Dl.mt_lst, Dl.mt_tup, Dl.mt_dic, fre, esc, escs, esci, getG, asI, asB, dTru, dNot, dNeg, BOp.fo, COp.fo, Bi.fo, onOwn, evApp, evExt, evSetL, evSetD, evAug, AOp.fo, dApp, dExt, dTuple, dList, dInt, dAbs, dLen, dItems, killG, unown, offG, Tg.put, setAll, blkG, wipeG, stepC, stepF, stepD, vAnd, vOr, vChain, B1_good_split, in_K, h1, h2, fit, eII, lkF_none, lkF_some]
theorem good_split {k : Nat} (hk : 1 ≤ k) (a b : Nat) (ha : a ≤ 1000) (hb : b ≤ 1000) (K : List II) : den G Pf k 1 [.int a, .int b, eK K] = some (eO (spx (cK K) a b)) := by
  rw [den_eq (fd := F_good_split) hk rfl rfl]
  have L : evS G (den G Pf (k - 1)) L2_good_split [some (false, .int a), some (false, .int b), some (false, eK K), none, none] = some (lkF eII (spx (cK K) a b) [some (false, .int a), some (false, .int b), some (false, eK K), none, none]) := by
    unfold L2_good_split
    rw [for_rng1 (n := a + 1) (by simp -implicitDefEqProofs -dsimp [e_var, e_int, e_str, e_bl, e_non, e_glb, e_bin, e_cmp, e_chain, e_neg, e_not, e_and, e_or, e_one, e_ite, e_tup, e_lst, e_dic, e_idx, e_dget, e_slc, e_get1, e_get2, e_call, e_bi, e_isa, e_comp, e_comp2, e_dcomp, es_nil, es_cons, eo_no, eo_yes, ec_no, ec_yes, ei_seq, ei_rng1, ei_rng2, s_asg, s_aug, s_setL, s_setD, s_app, s_ext, s_pop, s_ite, s_for_, s_wh, s_ret, s_retN, s_brk, s_cnt, s_pas, ss_nil, ss_cons, sq_nx, sq_rt, sq_bk, sq_ct, rn_nx, rn_rt, evAsg, startG, putNm, giveUp, Dl.at_non, Dl.at_bl, Dl.at_int, Dl.at_str, Dl.at_lst, Dl.at_tup, Dl.at_dic, Dl.mt_non, Dl.mt_bl, Dl.mt_int, Dl.mt_str, Dl.mt_lst, Dl.mt_tup, Dl.mt_dic, fre, esc, escs, esci, getG, asI, asB, dTru, dNot, dNeg, BOp.fo, COp.fo, Bi.fo, onOwn, evApp, evExt, evSetL, evSetD, evAug, AOp.fo, dApp, dExt, dTuple, dList, dInt, dAbs, dLen, dItems, killG, unown, offG, Tg.put, setAll, blkG, wipeG, stepC, stepF, stepD, vAnd, vOr, vChain]) (by omega)]
    refine Eq.trans (evFor_lk (t := .nm 3) (body := evSs G (den G Pf (k - 1)) B2_good_split) (kl := [3, 4]) (fun i : Nat => PyData.int i) (fun (x : Nat) => spy (cK K) a b x) eII
      (fun x => [some (false, .int a), some (false, .int b), some (false, eK K), some (false, .int x), none]) (fun x => [some (false, .int a), some (false, .int b), some (false, eK K), some (false, .int x), none]) (List.range (a + 1)) (fun x hx => ⟨rfl, ?_, by simp -implicitDefEqProofs -dsimp [e_var, e_int, e_str, e_bl, e_non, e_glb, e_bin, e_cmp, e_chain, e_neg, e_not, e_and, e_or, e_one, e_ite, e_tup, e_lst, e_dic, e_idx, e_dget, e_slc, e_get1, e_get2, e_call, e_bi, e_isa, e_comp, e_comp2, e_dcomp, es_nil, es_cons, eo_no, eo_yes, ec_no, ec_yes, ei_seq, ei_rng1, ei_rng2, s_asg, s_aug, s_setL, s_setD, s_app, s_ext, s_pop, s_ite, s_for_, s_wh, s_ret, s_retN, s_brk, s_cnt, s_pas, ss_nil, ss_cons, sq_nx, sq_rt, sq_bk, sq_ct, rn_nx, rn_rt, evAsg, startG, putNm, giveUp, Dl.at_non, Dl.at_bl, Dl.at_int, Dl.at_str, Dl.at_lst, Dl.at_tup, Dl.at_dic, Dl.mt_non, Dl.mt_bl, Dl.mt_int, Dl.mt_str, Dl.mt_lst, Dl.mt_tup, Dl.mt_dic, fre, esc, escs, esci, getG, asI, asB, dTru, dNot, dNeg, BOp.fo, COp.fo, Bi.fo, onOwn, evApp, evExt, evSetL, evSetD, evAug, AOp.fo, dApp, dExt, dTuple, dList, dInt, dAbs, dLen, dItems, killG, unown, offG, Tg.put, setAll, blkG, wipeG, stepC, stepF, stepD, vAnd, vOr, vChain]⟩)) rfl
    unfold B2_good_split
    rw [ss_cons, gs1 _ a b x hb K]
    cases spy (cK K) a b x <;> simp -implicitDefEqProofs -dsimp [e_var, e_int, e_str, e_bl, e_non, e_glb, e_bin, e_cmp, e_chain, e_neg, e_not, e_and, e_or, e_one, e_ite, e_tup, e_lst, e_dic, e_idx, e_dget, e_slc, e_get1, e_get2, e_call, e_bi, e_isa, e_comp, e_comp2, e_dcomp, es_nil, es_cons, eo_no, eo_yes, ec_no, ec_yes, ei_seq, ei_rng1, ei_rng2, s_asg, s_aug, s_setL, s_setD, s_app, s_ext, s_pop, s_ite, s_for_, s_wh, s_ret, s_retN, s_brk, s_cnt, s_pas, ss_nil, ss_cons, sq_nx, sq_rt, sq_bk, sq_ct, rn_nx, rn_rt, evAsg, startG, putNm, giveUp, Dl.at_non, Dl.at_bl, Dl.at_int, Dl.at_str, Dl.at_lst, Dl.at_tup, Dl.at_dic, Dl.mt_non, Dl.mt_bl, Dl.mt_int, Dl.mt_str, Dl.mt_lst, Dl.mt_tup, Dl.mt_dic, fre, esc, escs, esci, getG, asI, asB, dTru, dNot, dNeg, BOp.fo, COp.fo, Bi.fo, onOwn, evApp, evExt, evSetL, evSetD, evAug, AOp.fo, dApp, dExt, dTuple, dList, dInt, dAbs, dLen, dItems, killG, unown, offG, Tg.put, setAll, blkG, wipeG, stepC, stepF, stepD, vAnd, vOr, vChain, lkF_none, lkF_some]
  cases e : spx (cK K) a b <;> (rw [e] at L; simp -implicitDefEqProofs -dsimp [F_good_split, b_good_split, e_var, e_int, e_str, e_bl, e_non, e_glb, e_bin, e_cmp, e_chain, e_neg, e_not, e_and, e_or, e_one, e_ite, e_tup, e_lst, e_dic, e_idx, e_dget, e_slc, e_get1, e_get2, e_call, e_bi, e_isa, e_comp, e_comp2, e_dcomp, es_nil, es_cons, eo_no, eo_yes, ec_no, ec_yes, ei_seq, ei_rng1, ei_rng2, s_asg, s_aug, s_setL, s_setD, s_app, s_ext, s_pop, s_ite, s_for_, s_wh, s_ret, s_retN, s_brk, s_cnt, s_pas, ss_nil, ss_cons, sq_nx, sq_rt, sq_bk, sq_ct, rn_nx, rn_rt, evAsg, startG, putNm, giveUp, Dl.at_non, Dl.at_bl, Dl.at_int, Dl.at_str, Dl.at_lst, Dl.at_tup, Dl.at_dic, Dl.mt_non, Dl.mt_bl, Dl.mt_int, Dl.mt_str, Dl.mt_lst, Dl.mt_tup, Dl.mt_dic, fre, esc, escs, esci, getG, asI, asB, dTru, dNot, dNeg, BOp.fo, COp.fo, Bi.fo, onOwn, evApp, evExt, evSetL, evSetD, evAug, AOp.fo, dApp, dExt, dTuple, dList, dInt, dAbs, dLen, dItems, killG, unown, offG, Tg.put, setAll, blkG, wipeG, stepC, stepF, stepD, vAnd, vOr, vChain, L, eO, lkF_none, lkF_some])
/-! ### all pairs up to a sum -/
def P (n : Nat) : List II := (List.range (n + 1)).flatMap fun (a : Nat) => (List.range (n + 1 - a)).map fun (b : Nat) => ((a : Int), (b : Int))
theorem P_len : ∀ n ≤ 10, (P n).length ≤ 100 := by decide
theorem pairs_up {k : Nat} (hk : 1 ≤ k) (n : Nat) (hn : n ≤ 10) : den G Pf k 3 [.int n] = some (.list ((P n).map eII)) := by
  rw [den_eq (fd := F_pairs_up_to) hk rfl rfl]
  have L : ev G (den G Pf (k - 1)) C1_pairs_up_to [some (false, .int n), none, none] = some (.list ((P n).map eII)) := by
    have hl := P_len n hn
    unfold C1_pairs_up_to
    refine ev_comp2 (evi_rng1 (n := n + 1) (by simp -implicitDefEqProofs -dsimp [e_var, e_int, e_str, e_bl, e_non, e_glb, e_bin, e_cmp, e_chain, e_neg, e_not, e_and, e_or, e_one, e_ite, e_tup, e_lst, e_dic, e_idx, e_dget, e_slc, e_get1, e_get2, e_call, e_bi, e_isa, e_comp, e_comp2, e_dcomp, es_nil, es_cons, eo_no, eo_yes, ec_no, ec_yes, ei_seq, ei_rng1, ei_rng2, s_asg, s_aug, s_setL, s_setD, s_app, s_ext, s_pop, s_ite, s_for_, s_wh, s_ret, s_retN, s_brk, s_cnt, s_pas, ss_nil, ss_cons, sq_nx, sq_rt, sq_bk, sq_ct, rn_nx, rn_rt, evAsg, startG, putNm, giveUp, Dl.at_non, Dl.at_bl, Dl.at_int, Dl.at_str, Dl.at_lst, Dl.at_tup, Dl.at_dic, Dl.mt_non, Dl.mt_bl, Dl.mt_int, Dl.mt_str, Dl.mt_lst, Dl.mt_tup, Dl.mt_dic, fre, esc, escs, esci, getG, asI, asB, dTru, dNot, dNeg, BOp.fo, COp.fo, Bi.fo, onOwn, evApp, evExt, evSetL, evSetD, evAug, AOp.fo, dApp, dExt, dTuple, dList, dInt, dAbs, dLen, dItems, killG, unown, offG, Tg.put, setAll, blkG, wipeG, stepC, stepF, stepD, vAnd, vOr, vChain]) (by omega)) ?_ (by rw [List.length_map]; omega)
    unfold P
    rw [List.map_flatMap]
    refine compF_map (fun i : Nat => PyData.int i) (fun (a : Nat) => List.map eII ((List.range (n + 1 - a)).map fun (b : Nat) => ((a : Int), (b : Int)))) _ fun a ha => ?_
    rw [List.mem_range] at ha
    refine stepF_eq (Γ1 := [some (false, .int n), some (false, .int a), none]) rfl (by simp -implicitDefEqProofs -dsimp [e_var, e_int, e_str, e_bl, e_non, e_glb, e_bin, e_cmp, e_chain, e_neg, e_not, e_and, e_or, e_one, e_ite, e_tup, e_lst, e_dic, e_idx, e_dget, e_slc, e_get1, e_get2, e_call, e_bi, e_isa, e_comp, e_comp2, e_dcomp, es_nil, es_cons, eo_no, eo_yes, ec_no, ec_yes, ei_seq, ei_rng1, ei_rng2, s_asg, s_aug, s_setL, s_setD, s_app, s_ext, s_pop, s_ite, s_for_, s_wh, s_ret, s_retN, s_brk, s_cnt, s_pas, ss_nil, ss_cons, sq_nx, sq_rt, sq_bk, sq_ct, rn_nx, rn_rt, evAsg, startG, putNm, giveUp, Dl.at_non, Dl.at_bl, Dl.at_int, Dl.at_str, Dl.at_lst, Dl.at_tup, Dl.at_dic, Dl.mt_non, Dl.mt_bl, Dl.mt_int, Dl.mt_str, Dl.mt_lst, Dl.mt_tup, Dl.mt_dic, fre, esc, escs, esci, getG, asI, asB, dTru, dNot, dNeg, BOp.fo, COp.fo, Bi.fo, onOwn, evApp, evExt, evSetL, evSetD, evAug, AOp.fo, dApp, dExt, dTuple, dList, dInt, dAbs, dLen, dItems, killG, unown, offG, Tg.put, setAll, blkG, wipeG, stepC, stepF, stepD, vAnd, vOr, vChain]) (evi_rng1 (n := n + 1 - a) (by
      simp -implicitDefEqProofs -dsimp [e_var, e_int, e_str, e_bl, e_non, e_glb, e_bin, e_cmp, e_chain, e_neg, e_not, e_and, e_or, e_one, e_ite, e_tup, e_lst, e_dic, e_idx, e_dget, e_slc, e_get1, e_get2, e_call, e_bi, e_isa, e_comp, e_comp2, e_dcomp, es_nil, es_cons, eo_no, eo_yes, ec_no, ec_yes, ei_seq, ei_rng1, ei_rng2, s_asg, s_aug, s_setL, s_setD, s_app, s_ext, s_pop, s_ite, s_for_, s_wh, s_ret, s_retN, s_brk, s_cnt, s_pas, ss_nil, ss_cons, sq_nx, sq_rt, sq_bk, sq_ct, rn_nx, rn_rt, evAsg, startG, putNm, giveUp, Dl.at_non, Dl.at_bl, Dl.at_int, Dl.at_str, Dl.at_lst, Dl.at_tup, Dl.at_dic, Dl.mt_non, Dl.mt_bl, Dl.mt_int, Dl.mt_str, Dl.mt_lst, Dl.mt_tup, Dl.mt_dic, fre, esc, escs, esci, getG, asI, asB, dTru, dNot, dNeg, BOp.fo, COp.fo, Bi.fo, onOwn, evApp, evExt, evSetL, evSetD, evAug, AOp.fo, dApp, dExt, dTuple, dList, dInt, dAbs, dLen, dItems, killG, unown, offG, Tg.put, setAll, blkG, wipeG, stepC, stepF, stepD, vAnd, vOr, vChain]
      omega) (by omega)) ?_
    rw [List.map_map]
    refine compL_m (fun i : Nat => PyData.int i) _ _ fun b hb => ?_
    simp -implicitDefEqProofs -dsimp [e_var, e_int, e_str, e_bl, e_non, e_glb, e_bin, e_cmp, e_chain, e_neg, e_not, e_and, e_or, e_one, e_ite, e_tup, e_lst, e_dic, e_idx, e_dget, e_slc, e_get1, e_get2, e_call, e_bi, e_isa, e_comp, e_comp2, e_dcomp, es_nil, es_cons, eo_no, eo_yes, ec_no, ec_yes, ei_seq, ei_rng1, ei_rng2, s_asg, s_aug, s_setL, s_setD, s_app, s_ext, s_pop, s_ite, s_for_, s_wh, s_ret, s_retN, s_brk, s_cnt, s_pas, ss_nil, ss_cons, sq_nx, sq_rt, sq_bk, sq_ct, rn_nx, rn_rt, evAsg, startG, putNm, giveUp, Dl.at_non, Dl.at_bl, Dl.at_int, Dl.at_str, Dl.at_lst, Dl.at_tup, Dl.at_dic, Dl.mt_non, Dl.mt_bl, Dl.mt_int, Dl.mt_str, Dl.mt_lst, Dl.mt_tup, Dl.mt_dic, fre, esc, escs, esci, getG, asI, asB, dTru, dNot, dNeg, BOp.fo, COp.fo, Bi.fo, onOwn, evApp, evExt, evSetL, evSetD, evAug, AOp.fo, dApp, dExt, dTuple, dList, dInt, dAbs, dLen, dItems, killG, unown, offG, Tg.put, setAll, blkG, wipeG, stepC, stepF, stepD, vAnd, vOr, vChain, fit, eII]
  simp -implicitDefEqProofs -dsimp [F_pairs_up_to, b_pairs_up_to, e_var, e_int, e_str, e_bl, e_non, e_glb, e_bin, e_cmp, e_chain, e_neg, e_not, e_and, e_or, e_one, e_ite, e_tup, e_lst, e_dic, e_idx, e_dget, e_slc, e_get1, e_get2, e_call, e_bi, e_isa, e_comp, e_comp2, e_dcomp, es_nil, es_cons, eo_no, eo_yes, ec_no, ec_yes, ei_seq, ei_rng1, ei_rng2, s_asg, s_aug, s_setL, s_setD, s_app, s_ext, s_pop, s_ite, s_for_, s_wh, s_ret, s_retN, s_brk, s_cnt, s_pas, ss_nil, ss_cons, sq_nx, sq_rt, sq_bk, sq_ct, rn_nx, rn_rt, evAsg, startG, putNm, giveUp, Dl.at_non, Dl.at_bl, Dl.at_int, Dl.at_str, Dl.at_lst, Dl.at_tup, Dl.at_dic, Dl.mt_non, Dl.mt_bl, Dl.mt_int, Dl.mt_str, Dl.mt_lst, Dl.mt_tup, Dl.mt_dic, fre, esc, escs, esci, getG, asI, asB, dTru, dNot, dNeg, BOp.fo, COp.fo, Bi.fo, onOwn, evApp, evExt, evSetL, evSetD, evAug, AOp.fo, dApp, dExt, dTuple, dList, dInt, dAbs, dLen, dItems, killG, unown, offG, Tg.put, setAll, blkG, wipeG, stepC, stepF, stepD, vAnd, vOr, vChain, L]
theorem mem_P (n : Nat) (i j : Int) : (i, j) ∈ P n ↔ 0 ≤ i ∧ 0 ≤ j ∧ i + j ≤ n := by
  unfold P
  rw [List.mem_flatMap]
  constructor
  · rintro ⟨a, ha, h⟩
    rw [List.mem_range] at ha
    obtain ⟨b, hb, e⟩ := List.mem_map.mp h
    rw [List.mem_range] at hb
    cases e
    omega
  · rintro ⟨h1, h2, h3⟩
    refine ⟨i.toNat, List.mem_range.mpr (by omega), List.mem_map.mpr ⟨j.toNat, List.mem_range.mpr (by omega), ?_⟩⟩
    rw [Int.toNat_of_nonneg h1, Int.toNat_of_nonneg h2]
theorem P_nodup : ∀ n ≤ 10, (P n).Nodup := by decide
/-- what is known one question later -/
def nxK (Q K : List II) : List II := Q.filter fun p => decide (p.1 + p.2 ≤ 1) || (spx (cK K) p.1.toNat p.2.toNat).isSome
theorem next_known {k : Nat} (hk : 2 ≤ k) (n : Nat) (hn : n ≤ 10) (K : List II) : den G Pf k 2 [.list ((P n).map eII), eK K] = some (eK (nxK (P n) K)) := by
  rw [den_eq (fd := F_next_known) (by omega) rfl rfl]
  have L : ev G (den G Pf (k - 1)) C1_next_known [some (false, .list ((P n).map eII)), some (false, eK K), none, none] = some (eK (nxK (P n) K)) := by
    unfold C1_next_known
    refine ev_dcomp (evi_seq (d := .list ((P n).map eII)) (by simp -implicitDefEqProofs -dsimp [e_var, e_int, e_str, e_bl, e_non, e_glb, e_bin, e_cmp, e_chain, e_neg, e_not, e_and, e_or, e_one, e_ite, e_tup, e_lst, e_dic, e_idx, e_dget, e_slc, e_get1, e_get2, e_call, e_bi, e_isa, e_comp, e_comp2, e_dcomp, es_nil, es_cons, eo_no, eo_yes, ec_no, ec_yes, ei_seq, ei_rng1, ei_rng2, s_asg, s_aug, s_setL, s_setD, s_app, s_ext, s_pop, s_ite, s_for_, s_wh, s_ret, s_retN, s_brk, s_cnt, s_pas, ss_nil, ss_cons, sq_nx, sq_rt, sq_bk, sq_ct, rn_nx, rn_rt, evAsg, startG, putNm, giveUp, Dl.at_non, Dl.at_bl, Dl.at_int, Dl.at_str, Dl.at_lst, Dl.at_tup, Dl.at_dic, Dl.mt_non, Dl.mt_bl, Dl.mt_int, Dl.mt_str, Dl.mt_lst, Dl.mt_tup, Dl.mt_dic, fre, esc, escs, esci, getG, asI, asB, dTru, dNot, dNeg, BOp.fo, COp.fo, Bi.fo, onOwn, evApp, evExt, evSetL, evSetD, evAug, AOp.fo, dApp, dExt, dTuple, dList, dInt, dAbs, dLen, dItems, killG, unown, offG, Tg.put, setAll, blkG, wipeG, stepC, stepF, stepD, vAnd, vOr, vChain]) rfl) ?_
    have := compD_new (κ := II) (step := stepD (.tp [2, 3]) (evc G (den G Pf (k - 1)) (.yes (.or (.cmp .le (.bin .add (.var 2) (.var 3)) (.int 1)) (.one (.cmp .nis (.call 1 (.var 2) (.cons (.var 3) (.cons (.var 1) .nil))) (.non)))))) (ev G (den G Pf (k - 1)) (.tup (.cons (.var 2) (.cons (.var 3) .nil)))) (ev G (den G Pf (k - 1)) (.bl true)) (blkG [2, 3] (esci (.seq (.var 0))) [some (false, .list ((P n).map eII)), some (false, eK K), none, none])) eII (fun p => decide (p.1 + p.2 ≤ 1) || (spx (cK K) p.1.toNat p.2.toNat).isSome) (fun p => p) (fun _ => .bool true) (P n) []
      (fun p hp => ?_) (by simpa using P_nodup n hn) (fun x _ e he => by simp at he) (by have := P_len n hn; simp; omega)
    · refine Eq.trans this ?_
      simp [eK, nxK]
    · obtain ⟨i, j⟩ := p
      rw [mem_P] at hp
      obtain ⟨a, rfl⟩ := Int.eq_ofNat_of_zero_le hp.1
      obtain ⟨b, rfl⟩ := Int.eq_ofNat_of_zero_le hp.2.1
      have g := good_split (k := k - 1) (by omega) a b (by omega) (by omega) K
      by_cases h : (a : Int) + (b : Int) ≤ 1
      · simp -implicitDefEqProofs -dsimp [e_var, e_int, e_str, e_bl, e_non, e_glb, e_bin, e_cmp, e_chain, e_neg, e_not, e_and, e_or, e_one, e_ite, e_tup, e_lst, e_dic, e_idx, e_dget, e_slc, e_get1, e_get2, e_call, e_bi, e_isa, e_comp, e_comp2, e_dcomp, es_nil, es_cons, eo_no, eo_yes, ec_no, ec_yes, ei_seq, ei_rng1, ei_rng2, s_asg, s_aug, s_setL, s_setD, s_app, s_ext, s_pop, s_ite, s_for_, s_wh, s_ret, s_retN, s_brk, s_cnt, s_pas, ss_nil, ss_cons, sq_nx, sq_rt, sq_bk, sq_ct, rn_nx, rn_rt, evAsg, startG, putNm, giveUp, Dl.at_non, Dl.at_bl, Dl.at_int, Dl.at_str, Dl.at_lst, Dl.at_tup, Dl.at_dic, Dl.mt_non, Dl.mt_bl, Dl.mt_int, Dl.mt_str, Dl.mt_lst, Dl.mt_tup, Dl.mt_dic, fre, esc, escs, esci, getG, asI, asB, dTru, dNot, dNeg, BOp.fo, COp.fo, Bi.fo, onOwn, evApp, evExt, evSetL, evSetD, evAug, AOp.fo, dApp, dExt, dTuple, dList, dInt, dAbs, dLen, dItems, killG, unown, offG, Tg.put, setAll, blkG, wipeG, stepC, stepF, stepD, vAnd, vOr, vChain, eII, h, fit]
        rfl
      · cases e : spx (cK K) a b with
        | none =>
          rw [e] at g
          simp -implicitDefEqProofs -dsimp [e_var, e_int, e_str, e_bl, e_non, e_glb, e_bin, e_cmp, e_chain, e_neg, e_not, e_and, e_or, e_one, e_ite, e_tup, e_lst, e_dic, e_idx, e_dget, e_slc, e_get1, e_get2, e_call, e_bi, e_isa, e_comp, e_comp2, e_dcomp, es_nil, es_cons, eo_no, eo_yes, ec_no, ec_yes, ei_seq, ei_rng1, ei_rng2, s_asg, s_aug, s_setL, s_setD, s_app, s_ext, s_pop, s_ite, s_for_, s_wh, s_ret, s_retN, s_brk, s_cnt, s_pas, ss_nil, ss_cons, sq_nx, sq_rt, sq_bk, sq_ct, rn_nx, rn_rt, evAsg, startG, putNm, giveUp, Dl.at_non, Dl.at_bl, Dl.at_int, Dl.at_str, Dl.at_lst, Dl.at_tup, Dl.at_dic, Dl.mt_non, Dl.mt_bl, Dl.mt_int, Dl.mt_str, Dl.mt_lst, Dl.mt_tup, Dl.mt_dic, fre, esc, escs, esci, getG, asI, asB, dTru, dNot, dNeg, BOp.fo, COp.fo, Bi.fo, onOwn, evApp, evExt, evSetL, evSetD, evAug, AOp.fo, dApp, dExt, dTuple, dList, dInt, dAbs, dLen, dItems, killG, unown, offG, Tg.put, setAll, blkG, wipeG, stepC, stepF, stepD, vAnd, vOr, vChain, eII, h, fit, g, eO, isNon, e]
        | some p =>
          rw [e] at g
          simp -implicitDefEqProofs -dsimp [e_var, e_int, e_str, e_bl, e_non, e_glb, e_bin, e_cmp, e_chain, e_neg, e_not, e_and, e_or, e_one, e_ite, e_tup, e_lst, e_dic, e_idx, e_dget, e_slc, e_get1, e_get2, e_call, e_bi, e_isa, e_comp, e_comp2, e_dcomp, es_nil, es_cons, eo_no, eo_yes, ec_no, ec_yes, ei_seq, ei_rng1, ei_rng2, s_asg, s_aug, s_setL, s_setD, s_app, s_ext, s_pop, s_ite, s_for_, s_wh, s_ret, s_retN, s_brk, s_cnt, s_pas, ss_nil, ss_cons, sq_nx, sq_rt, sq_bk, sq_ct, rn_nx, rn_rt, evAsg, startG, putNm, giveUp, Dl.at_non, Dl.at_bl, Dl.at_int, Dl.at_str, Dl.at_lst, Dl.at_tup, Dl.at_dic, Dl.mt_non, Dl.mt_bl, Dl.mt_int, Dl.mt_str, Dl.mt_lst, Dl.mt_tup, Dl.mt_dic, fre, esc, escs, esci, getG, asI, asB, dTru, dNot, dNeg, BOp.fo, COp.fo, Bi.fo, onOwn, evApp, evExt, evSetL, evSetD, evAug, AOp.fo, dApp, dExt, dTuple, dList, dInt, dAbs, dLen, dItems, killG, unown, offG, Tg.put, setAll, blkG, wipeG, stepC, stepF, stepD, vAnd, vOr, vChain, eII, h, fit, g, eO, isNon, e]
          rfl
  simp -implicitDefEqProofs -dsimp [F_next_known, b_next_known, e_var, e_int, e_str, e_bl, e_non, e_glb, e_bin, e_cmp, e_chain, e_neg, e_not, e_and, e_or, e_one, e_ite, e_tup, e_lst, e_dic, e_idx, e_dget, e_slc, e_get1, e_get2, e_call, e_bi, e_isa, e_comp, e_comp2, e_dcomp, es_nil, es_cons, eo_no, eo_yes, ec_no, ec_yes, ei_seq, ei_rng1, ei_rng2, s_asg, s_aug, s_setL, s_setD, s_app, s_ext, s_pop, s_ite, s_for_, s_wh, s_ret, s_retN, s_brk, s_cnt, s_pas, ss_nil, ss_cons, sq_nx, sq_rt, sq_bk, sq_ct, rn_nx, rn_rt, evAsg, startG, putNm, giveUp, Dl.at_non, Dl.at_bl, Dl.at_int, Dl.at_str, Dl.at_lst, Dl.at_tup, Dl.at_dic, Dl.mt_non, Dl.mt_bl, Dl.mt_int, Dl.mt_str, Dl.mt_lst, Dl.mt_tup, Dl.mt_dic, fre, esc, escs, esci, getG, asI, asB, dTru, dNot, dNeg, BOp.fo, COp.fo, Bi.fo, onOwn, evApp, evExt, evSetL, evSetD, evAug, AOp.fo, dApp, dExt, dTuple, dList, dInt, dAbs, dLen, dItems, killG, unown, offG, Tg.put, setAll, blkG, wipeG, stepC, stepF, stepD, vAnd, vOr, vChain, L]
end K47

set_option Elab.async false
set_option linter.all false
set_option maxRecDepth 100000
set_option maxHeartbeats 2000000
namespace K47
open Dl PySem
/-! ### the program's searches -/
def Kst (n : Nat) : Nat → List II
  | 0 => nxK (P n) []
  | t + 1 => nxK (P n) (Kst n t)
theorem eK_nil : iniD true = eK [] := rfl
theorem eK_atom (K : List II) : isAtom (eK K) = false := by unfold eK eDic; exact Eq.trans rfl rfl
theorem eK_mut (K : List II) : isMut (eK K) = true := by unfold eK eDic; exact Eq.trans rfl rfl
theorem lp_it (n : Nat) : ∀ (q j : Nat) (l : Nat), lp (α := Nat) (fun _ K => Lp.nx (nxK (P n) K)) (List.range' l q) (Kst n j) = Lp.nx (Kst n (j + q))
  | 0, j, l => rfl
  | q + 1, j, l => by
    rw [List.range'_succ]
    refine Eq.trans (b := lp (α := Nat) (fun _ K => Lp.nx (nxK (P n) K)) (List.range' (l + 1) q) (Kst n (j + 1))) rfl ?_
    rw [lp_it n q (j + 1) (l + 1), Nat.add_right_comm, Nat.add_assoc]
theorem can_find {k : Nat} (hk : 3 ≤ k) (a b q : Nat) (hn : a + b ≤ 10) (hq : q ≤ 1000) : den G Pf k 4 [.int a, .int b, .int q] = some (.bool (hasK (Kst (a + b) q) (a, b))) := by
  rw [den_eq (fd := F_can_find) (by omega) rfl rfl]
  have c1 := pairs_up (k := k - 1) (by omega) (a + b) hn
  have c2 := fun K => next_known (k := k - 1) (by omega) (a + b) hn K
  have L : evS G (den G Pf (k - 1)) L1_can_find [some (false, .int a), some (false, .int b), some (false, .int q), some (false, .list ((P (a + b)).map eII)), some (false, eK (Kst (a + b) 0)), none] = some (.nx [some (false, .int a), some (false, .int b), some (false, .int q), some (false, .list ((P (a + b)).map eII)), some (false, eK (Kst (a + b) q)), none]) := by
    unfold L1_can_find
    rw [for_rng1 (n := q) (by simp -implicitDefEqProofs -dsimp [e_var, e_int, e_str, e_bl, e_non, e_glb, e_bin, e_cmp, e_chain, e_neg, e_not, e_and, e_or, e_one, e_ite, e_tup, e_lst, e_dic, e_idx, e_dget, e_slc, e_get1, e_get2, e_call, e_bi, e_isa, e_comp, e_comp2, e_dcomp, es_nil, es_cons, eo_no, eo_yes, ec_no, ec_yes, ei_seq, ei_rng1, ei_rng2, s_asg, s_aug, s_setL, s_setD, s_app, s_ext, s_pop, s_ite, s_for_, s_wh, s_ret, s_retN, s_brk, s_cnt, s_pas, ss_nil, ss_cons, sq_nx, sq_rt, sq_bk, sq_ct, rn_nx, rn_rt, evAsg, startG, putNm, giveUp, Dl.at_non, Dl.at_bl, Dl.at_int, Dl.at_str, Dl.at_lst, Dl.at_tup, Dl.at_dic, Dl.mt_non, Dl.mt_bl, Dl.mt_int, Dl.mt_str, Dl.mt_lst, Dl.mt_tup, Dl.mt_dic, fre, esc, escs, esci, getG, asI, asB, dTru, dNot, dNeg, BOp.fo, COp.fo, Bi.fo, onOwn, evApp, evExt, evSetL, evSetD, evAug, AOp.fo, dApp, dExt, dTuple, dList, dInt, dAbs, dLen, dItems, killG, unown, offG, Tg.put, setAll, blkG, wipeG, stepC, stepF, stepD, vAnd, vOr, vChain]) (by omega)]
    have := evFor_lp (t := .nm 5) (body := evSs G (den G Pf (k - 1)) B1_can_find) (kl := [5]) (fun i : Nat => PyData.int i) (fun K : List II => [some (false, .int a), some (false, .int b), some (false, .int q), some (false, .list ((P (a + b)).map eII)), some (false, eK K), none]) (fun _ K => .nx (nxK (P (a + b)) K)) (fun _ _ => True)
      (fun x xs K _ => ⟨_, .nx [some (false, .int a), some (false, .int b), some (false, .int q), some (false, .list ((P (a + b)).map eII)), some (false, eK (nxK (P (a + b)) K)), some (false, .int x)], rfl, by simp -implicitDefEqProofs -dsimp [e_var, e_int, e_str, e_bl, e_non, e_glb, e_bin, e_cmp, e_chain, e_neg, e_not, e_and, e_or, e_one, e_ite, e_tup, e_lst, e_dic, e_idx, e_dget, e_slc, e_get1, e_get2, e_call, e_bi, e_isa, e_comp, e_comp2, e_dcomp, es_nil, es_cons, eo_no, eo_yes, ec_no, ec_yes, ei_seq, ei_rng1, ei_rng2, s_asg, s_aug, s_setL, s_setD, s_app, s_ext, s_pop, s_ite, s_for_, s_wh, s_ret, s_retN, s_brk, s_cnt, s_pas, ss_nil, ss_cons, sq_nx, sq_rt, sq_bk, sq_ct, rn_nx, rn_rt, evAsg, startG, putNm, giveUp, Dl.at_non, Dl.at_bl, Dl.at_int, Dl.at_str, Dl.at_lst, Dl.at_tup, Dl.at_dic, Dl.mt_non, Dl.mt_bl, Dl.mt_int, Dl.mt_str, Dl.mt_lst, Dl.mt_tup, Dl.mt_dic, fre, esc, escs, esci, getG, asI, asB, dTru, dNot, dNeg, BOp.fo, COp.fo, Bi.fo, onOwn, evApp, evExt, evSetL, evSetD, evAug, AOp.fo, dApp, dExt, dTuple, dList, dInt, dAbs, dLen, dItems, killG, unown, offG, Tg.put, setAll, blkG, wipeG, stepC, stepF, stepD, vAnd, vOr, vChain, B1_can_find, c2, eK_atom, eK_mut], by simp [Fit, killG], fun _ _ => trivial⟩) (List.range q) (Kst (a + b) 0) trivial
    refine Eq.trans this ?_
    rw [List.range_eq_range', lp_it]
    simp [Lp.fw]
  have c2' := c2 []
  rw [← eK_nil] at c2'
  have c1' : den G Pf (k - 1) 3 [.int ((a : Int) + (b : Int))] = some (.list ((P (a + b)).map eII)) := by
    rw [← c1]
    push_cast
    rfl
  have L' : evS G (den G Pf (k - 1)) L1_can_find [some (false, .int a), some (false, .int b), some (false, .int q), some (false, .list ((P (a + b)).map eII)), some (false, eK (nxK (P (a + b)) [])), none] = _ := L
  simp -implicitDefEqProofs -dsimp [F_can_find, b_can_find, e_var, e_int, e_str, e_bl, e_non, e_glb, e_bin, e_cmp, e_chain, e_neg, e_not, e_and, e_or, e_one, e_ite, e_tup, e_lst, e_dic, e_idx, e_dget, e_slc, e_get1, e_get2, e_call, e_bi, e_isa, e_comp, e_comp2, e_dcomp, es_nil, es_cons, eo_no, eo_yes, ec_no, ec_yes, ei_seq, ei_rng1, ei_rng2, s_asg, s_aug, s_setL, s_setD, s_app, s_ext, s_pop, s_ite, s_for_, s_wh, s_ret, s_retN, s_brk, s_cnt, s_pas, ss_nil, ss_cons, sq_nx, sq_rt, sq_bk, sq_ct, rn_nx, rn_rt, evAsg, startG, putNm, giveUp, Dl.at_non, Dl.at_bl, Dl.at_int, Dl.at_str, Dl.at_lst, Dl.at_tup, Dl.at_dic, Dl.mt_non, Dl.mt_bl, Dl.mt_int, Dl.mt_str, Dl.mt_lst, Dl.mt_tup, Dl.mt_dic, fre, esc, escs, esci, getG, asI, asB, dTru, dNot, dNeg, BOp.fo, COp.fo, Bi.fo, onOwn, evApp, evExt, evSetL, evSetD, evAug, AOp.fo, dApp, dExt, dTuple, dList, dInt, dAbs, dLen, dItems, killG, unown, offG, Tg.put, setAll, blkG, wipeG, stepC, stepF, stepD, vAnd, vOr, vChain, c1', c2', L', in_K, fit, eK_atom, eK_mut]
theorem wl_it (n : Nat) (p : II) (m : Nat) (hm : hasK (Kst n m) p = true) (hlt : ∀ j, j < m → hasK (Kst n j) p = false) : ∀ (d j : Nat), j + d = m → wl (S := List II × Nat) (fun s => !hasK s.1 p) (fun s => .nx (nxK (P n) s.1, s.2 + 1)) (d + 1) (Kst n j, j) = some (.nx (Kst n m, m))
  | 0, j, h => by
    have : j = m := by omega
    subst this
    unfold wl
    rw [show (!hasK (Kst n j, j).1 p) = false by simp [hm]]
    rfl
  | d + 1, j, h => by
    unfold wl
    rw [show (!hasK (Kst n j, j).1 p) = true by simp [hlt j (by omega)], if_pos rfl]
    exact wl_it n p m hm hlt d (j + 1) (by omega)
theorem fewest_asked {k : Nat} (hk : 3 ≤ k) (a b m : Nat) (hn : a + b ≤ 10) (hm : hasK (Kst (a + b) m) ((a : Int), (b : Int)) = true) (hlt : ∀ j, j < m → hasK (Kst (a + b) j) ((a : Int), (b : Int)) = false) (hmb : m ≤ 1000) : den G Pf k 5 [.int a, .int b] = some (.int m) := by
  rw [den_eq (fd := F_fewest_asked) (by omega) rfl rfl]
  have c1 := pairs_up (k := k - 1) (by omega) (a + b) hn
  have c2 := fun K => next_known (k := k - 1) (by omega) (a + b) hn K
  have L : evS G (den G Pf (k - 1)) L1_fewest_asked [some (false, .int a), some (false, .int b), some (false, .list ((P (a + b)).map eII)), some (false, eK (Kst (a + b) 0)), some (false, .int 0)] = some (.nx [some (false, .int a), some (false, .int b), some (false, .list ((P (a + b)).map eII)), some (false, eK (Kst (a + b) m)), some (false, .int m)]) := by
    unfold L1_fewest_asked
    rw [wh_eq]
    exact evWhile_wl (fun s : List II × Nat => [some (false, .int a), some (false, .int b), some (false, .list ((P (a + b)).map eII)), some (false, eK s.1), some (false, .int s.2)]) (fun s => !hasK s.1 ((a : Int), (b : Int))) (fun s => .nx (nxK (P (a + b)) s.1, s.2 + 1)) (fun _ => True) (fun s _ => ⟨by simp -implicitDefEqProofs -dsimp [e_var, e_int, e_str, e_bl, e_non, e_glb, e_bin, e_cmp, e_chain, e_neg, e_not, e_and, e_or, e_one, e_ite, e_tup, e_lst, e_dic, e_idx, e_dget, e_slc, e_get1, e_get2, e_call, e_bi, e_isa, e_comp, e_comp2, e_dcomp, es_nil, es_cons, eo_no, eo_yes, ec_no, ec_yes, ei_seq, ei_rng1, ei_rng2, s_asg, s_aug, s_setL, s_setD, s_app, s_ext, s_pop, s_ite, s_for_, s_wh, s_ret, s_retN, s_brk, s_cnt, s_pas, ss_nil, ss_cons, sq_nx, sq_rt, sq_bk, sq_ct, rn_nx, rn_rt, evAsg, startG, putNm, giveUp, Dl.at_non, Dl.at_bl, Dl.at_int, Dl.at_str, Dl.at_lst, Dl.at_tup, Dl.at_dic, Dl.mt_non, Dl.mt_bl, Dl.mt_int, Dl.mt_str, Dl.mt_lst, Dl.mt_tup, Dl.mt_dic, fre, esc, escs, esci, getG, asI, asB, dTru, dNot, dNeg, BOp.fo, COp.fo, Bi.fo, onOwn, evApp, evExt, evSetL, evSetD, evAug, AOp.fo, dApp, dExt, dTuple, dList, dInt, dAbs, dLen, dItems, killG, unown, offG, Tg.put, setAll, blkG, wipeG, stepC, stepF, stepD, vAnd, vOr, vChain, nin_K, fit], fun _ => ⟨.nx [some (false, .int a), some (false, .int b), some (false, .list ((P (a + b)).map eII)), some (false, eK (nxK (P (a + b)) s.1)), some (false, .int ((s.2 + 1 : Nat) : Int))], by simp -implicitDefEqProofs -dsimp [e_var, e_int, e_str, e_bl, e_non, e_glb, e_bin, e_cmp, e_chain, e_neg, e_not, e_and, e_or, e_one, e_ite, e_tup, e_lst, e_dic, e_idx, e_dget, e_slc, e_get1, e_get2, e_call, e_bi, e_isa, e_comp, e_comp2, e_dcomp, es_nil, es_cons, eo_no, eo_yes, ec_no, ec_yes, ei_seq, ei_rng1, ei_rng2, s_asg, s_aug, s_setL, s_setD, s_app, s_ext, s_pop, s_ite, s_for_, s_wh, s_ret, s_retN, s_brk, s_cnt, s_pas, ss_nil, ss_cons, sq_nx, sq_rt, sq_bk, sq_ct, rn_nx, rn_rt, evAsg, startG, putNm, giveUp, Dl.at_non, Dl.at_bl, Dl.at_int, Dl.at_str, Dl.at_lst, Dl.at_tup, Dl.at_dic, Dl.mt_non, Dl.mt_bl, Dl.mt_int, Dl.mt_str, Dl.mt_lst, Dl.mt_tup, Dl.mt_dic, fre, esc, escs, esci, getG, asI, asB, dTru, dNot, dNeg, BOp.fo, COp.fo, Bi.fo, onOwn, evApp, evExt, evSetL, evSetD, evAug, AOp.fo, dApp, dExt, dTuple, dList, dInt, dAbs, dLen, dItems, killG, unown, offG, Tg.put, setAll, blkG, wipeG, stepC, stepF, stepD, vAnd, vOr, vChain, B1_fewest_asked, c2, eK_atom, eK_mut], by simp [Fit, killG], fun _ _ => trivial⟩⟩) (m + 1) fuel (Kst (a + b) 0, 0) _ trivial (wl_it (a + b) _ m hm hlt m 0 (by omega)) (by unfold fuel; omega)
  have c2' := c2 []
  rw [← eK_nil] at c2'
  have c1' : den G Pf (k - 1) 3 [.int ((a : Int) + (b : Int))] = some (.list ((P (a + b)).map eII)) := by
    rw [← c1]
    push_cast
    rfl
  have L' : evS G (den G Pf (k - 1)) L1_fewest_asked [some (false, .int a), some (false, .int b), some (false, .list ((P (a + b)).map eII)), some (false, eK (nxK (P (a + b)) [])), some (false, .int 0)] = _ := L
  simp -implicitDefEqProofs -dsimp [F_fewest_asked, b_fewest_asked, e_var, e_int, e_str, e_bl, e_non, e_glb, e_bin, e_cmp, e_chain, e_neg, e_not, e_and, e_or, e_one, e_ite, e_tup, e_lst, e_dic, e_idx, e_dget, e_slc, e_get1, e_get2, e_call, e_bi, e_isa, e_comp, e_comp2, e_dcomp, es_nil, es_cons, eo_no, eo_yes, ec_no, ec_yes, ei_seq, ei_rng1, ei_rng2, s_asg, s_aug, s_setL, s_setD, s_app, s_ext, s_pop, s_ite, s_for_, s_wh, s_ret, s_retN, s_brk, s_cnt, s_pas, ss_nil, ss_cons, sq_nx, sq_rt, sq_bk, sq_ct, rn_nx, rn_rt, evAsg, startG, putNm, giveUp, Dl.at_non, Dl.at_bl, Dl.at_int, Dl.at_str, Dl.at_lst, Dl.at_tup, Dl.at_dic, Dl.mt_non, Dl.mt_bl, Dl.mt_int, Dl.mt_str, Dl.mt_lst, Dl.mt_tup, Dl.mt_dic, fre, esc, escs, esci, getG, asI, asB, dTru, dNot, dNeg, BOp.fo, COp.fo, Bi.fo, onOwn, evApp, evExt, evSetL, evSetD, evAug, AOp.fo, dApp, dExt, dTuple, dList, dInt, dAbs, dLen, dItems, killG, unown, offG, Tg.put, setAll, blkG, wipeG, stepC, stepF, stepD, vAnd, vOr, vChain, c1', c2', L', in_K, fit, eK_atom, eK_mut]
theorem wl_sp (n : Nat) (a b : Nat) (m : Nat) (hm : hasK (Kst n m) ((a : Int), (b : Int)) = true) (hlt : ∀ j, j < m → hasK (Kst n j) ((a : Int), (b : Int)) = false) : ∀ (d j : Nat), j + d + 1 = m → wl (S := List II) (fun K => !hasK K ((a : Int), (b : Int))) (fun K => if hasK (nxK (P n) K) ((a : Int), (b : Int)) = true then .rt (eO (spx (cK K) a b)) else .nx (nxK (P n) K)) (d + 1) (Kst n j) = some (.rt (eO (spx (cK (Kst n (m - 1))) a b)))
  | 0, j, h => by
    have : m = j + 1 := by omega
    subst this
    unfold wl
    rw [show (!hasK (Kst n j) ((a : Int), (b : Int))) = true by simp [hlt j (by omega)], if_pos rfl]
    rw [show hasK (nxK (P n) (Kst n j)) ((a : Int), (b : Int)) = true from hm, if_pos rfl]
    rfl
  | d + 1, j, h => by
    unfold wl
    rw [show (!hasK (Kst n j) ((a : Int), (b : Int))) = true by simp [hlt j (by omega)], if_pos rfl]
    rw [show hasK (nxK (P n) (Kst n j)) ((a : Int), (b : Int)) = false from hlt (j + 1) (by omega), if_neg Bool.false_ne_true]
    exact wl_sp n a b m hm hlt d (j + 1) (by omega)
theorem told_small {k : Nat} (hk : 3 ≤ k) (a b : Nat) (h : a + b ≤ 1) : den G Pf k 6 [.int a, .int b] = some .none := by
  rw [den_eq (fd := F_told_split) (by omega) rfl rfl]
  have h' : (a : Int) + (b : Int) ≤ 1 := by omega
  simp -implicitDefEqProofs -dsimp [F_told_split, b_told_split, e_var, e_int, e_str, e_bl, e_non, e_glb, e_bin, e_cmp, e_chain, e_neg, e_not, e_and, e_or, e_one, e_ite, e_tup, e_lst, e_dic, e_idx, e_dget, e_slc, e_get1, e_get2, e_call, e_bi, e_isa, e_comp, e_comp2, e_dcomp, es_nil, es_cons, eo_no, eo_yes, ec_no, ec_yes, ei_seq, ei_rng1, ei_rng2, s_asg, s_aug, s_setL, s_setD, s_app, s_ext, s_pop, s_ite, s_for_, s_wh, s_ret, s_retN, s_brk, s_cnt, s_pas, ss_nil, ss_cons, sq_nx, sq_rt, sq_bk, sq_ct, rn_nx, rn_rt, evAsg, startG, putNm, giveUp, Dl.at_non, Dl.at_bl, Dl.at_int, Dl.at_str, Dl.at_lst, Dl.at_tup, Dl.at_dic, Dl.mt_non, Dl.mt_bl, Dl.mt_int, Dl.mt_str, Dl.mt_lst, Dl.mt_tup, Dl.mt_dic, fre, esc, escs, esci, getG, asI, asB, dTru, dNot, dNeg, BOp.fo, COp.fo, Bi.fo, onOwn, evApp, evExt, evSetL, evSetD, evAug, AOp.fo, dApp, dExt, dTuple, dList, dInt, dAbs, dLen, dItems, killG, unown, offG, Tg.put, setAll, blkG, wipeG, stepC, stepF, stepD, vAnd, vOr, vChain, h']
theorem told_split {k : Nat} (hk : 3 ≤ k) (a b m : Nat) (hn : a + b ≤ 10) (h1 : ¬ a + b ≤ 1) (h0 : 0 < m) (hm : hasK (Kst (a + b) m) ((a : Int), (b : Int)) = true) (hlt : ∀ j, j < m → hasK (Kst (a + b) j) ((a : Int), (b : Int)) = false) (hmb : m ≤ 1000) : den G Pf k 6 [.int a, .int b] = some (eO (spx (cK (Kst (a + b) (m - 1))) a b)) := by
  rw [den_eq (fd := F_told_split) (by omega) rfl rfl]
  have c1 := pairs_up (k := k - 1) (by omega) (a + b) hn
  have c2 := fun K => next_known (k := k - 1) (by omega) (a + b) hn K
  have c3 := fun K => good_split (k := k - 1) (by omega) a b (by omega) (by omega) K
  have L : evS G (den G Pf (k - 1)) L1_told_split [some (false, .int a), some (false, .int b), some (false, .list ((P (a + b)).map eII)), some (false, eK (Kst (a + b) 0)), none] = some (.rt (eO (spx (cK (Kst (a + b) (m - 1))) a b))) := by
    unfold L1_told_split
    rw [wh_eq]
    exact evWhile_wl (fun K : List II => [some (false, .int a), some (false, .int b), some (false, .list ((P (a + b)).map eII)), some (false, eK K), none]) (fun K => !hasK K ((a : Int), (b : Int))) (fun K => if hasK (nxK (P (a + b)) K) ((a : Int), (b : Int)) = true then .rt (eO (spx (cK K) a b)) else .nx (nxK (P (a + b)) K)) (fun _ => True) (fun K _ => ⟨by simp -implicitDefEqProofs -dsimp [e_var, e_int, e_str, e_bl, e_non, e_glb, e_bin, e_cmp, e_chain, e_neg, e_not, e_and, e_or, e_one, e_ite, e_tup, e_lst, e_dic, e_idx, e_dget, e_slc, e_get1, e_get2, e_call, e_bi, e_isa, e_comp, e_comp2, e_dcomp, es_nil, es_cons, eo_no, eo_yes, ec_no, ec_yes, ei_seq, ei_rng1, ei_rng2, s_asg, s_aug, s_setL, s_setD, s_app, s_ext, s_pop, s_ite, s_for_, s_wh, s_ret, s_retN, s_brk, s_cnt, s_pas, ss_nil, ss_cons, sq_nx, sq_rt, sq_bk, sq_ct, rn_nx, rn_rt, evAsg, startG, putNm, giveUp, Dl.at_non, Dl.at_bl, Dl.at_int, Dl.at_str, Dl.at_lst, Dl.at_tup, Dl.at_dic, Dl.mt_non, Dl.mt_bl, Dl.mt_int, Dl.mt_str, Dl.mt_lst, Dl.mt_tup, Dl.mt_dic, fre, esc, escs, esci, getG, asI, asB, dTru, dNot, dNeg, BOp.fo, COp.fo, Bi.fo, onOwn, evApp, evExt, evSetL, evSetD, evAug, AOp.fo, dApp, dExt, dTuple, dList, dInt, dAbs, dLen, dItems, killG, unown, offG, Tg.put, setAll, blkG, wipeG, stepC, stepF, stepD, vAnd, vOr, vChain, nin_K, fit], fun _ => ⟨if hasK (nxK (P (a + b)) K) ((a : Int), (b : Int)) = true then .rt (eO (spx (cK K) a b)) else .nx [some (false, .int a), some (false, .int b), some (false, .list ((P (a + b)).map eII)), some (false, eK (nxK (P (a + b)) K)), some (false, eK K)], by
        cases h : hasK (nxK (P (a + b)) K) ((a : Int), (b : Int)) <;> simp -implicitDefEqProofs -dsimp [e_var, e_int, e_str, e_bl, e_non, e_glb, e_bin, e_cmp, e_chain, e_neg, e_not, e_and, e_or, e_one, e_ite, e_tup, e_lst, e_dic, e_idx, e_dget, e_slc, e_get1, e_get2, e_call, e_bi, e_isa, e_comp, e_comp2, e_dcomp, es_nil, es_cons, eo_no, eo_yes, ec_no, ec_yes, ei_seq, ei_rng1, ei_rng2, s_asg, s_aug, s_setL, s_setD, s_app, s_ext, s_pop, s_ite, s_for_, s_wh, s_ret, s_retN, s_brk, s_cnt, s_pas, ss_nil, ss_cons, sq_nx, sq_rt, sq_bk, sq_ct, rn_nx, rn_rt, evAsg, startG, putNm, giveUp, Dl.at_non, Dl.at_bl, Dl.at_int, Dl.at_str, Dl.at_lst, Dl.at_tup, Dl.at_dic, Dl.mt_non, Dl.mt_bl, Dl.mt_int, Dl.mt_str, Dl.mt_lst, Dl.mt_tup, Dl.mt_dic, fre, esc, escs, esci, getG, asI, asB, dTru, dNot, dNeg, BOp.fo, COp.fo, Bi.fo, onOwn, evApp, evExt, evSetL, evSetD, evAug, AOp.fo, dApp, dExt, dTuple, dList, dInt, dAbs, dLen, dItems, killG, unown, offG, Tg.put, setAll, blkG, wipeG, stepC, stepF, stepD, vAnd, vOr, vChain, B1_told_split, c2, c3, in_K, h, fit, eK_atom, eK_mut], by
        cases h : hasK (nxK (P (a + b)) K) ((a : Int), (b : Int)) <;> simp [Fit, killG], fun _ _ => trivial⟩⟩) (m - 1 + 1) fuel (Kst (a + b) 0) _ trivial (wl_sp (a + b) a b m hm hlt (m - 1) 0 (by omega)) (by unfold fuel; omega)
  have c2' := c2 []
  rw [← eK_nil] at c2'
  have c1' : den G Pf (k - 1) 3 [.int ((a : Int) + (b : Int))] = some (.list ((P (a + b)).map eII)) := by
    rw [← c1]
    push_cast
    rfl
  have h1' : ¬ (a : Int) + (b : Int) ≤ 1 := by omega
  have L' : evS G (den G Pf (k - 1)) L1_told_split [some (false, .int a), some (false, .int b), some (false, .list ((P (a + b)).map eII)), some (false, eK (nxK (P (a + b)) [])), none] = _ := L
  simp -implicitDefEqProofs -dsimp [F_told_split, b_told_split, e_var, e_int, e_str, e_bl, e_non, e_glb, e_bin, e_cmp, e_chain, e_neg, e_not, e_and, e_or, e_one, e_ite, e_tup, e_lst, e_dic, e_idx, e_dget, e_slc, e_get1, e_get2, e_call, e_bi, e_isa, e_comp, e_comp2, e_dcomp, es_nil, es_cons, eo_no, eo_yes, ec_no, ec_yes, ei_seq, ei_rng1, ei_rng2, s_asg, s_aug, s_setL, s_setD, s_app, s_ext, s_pop, s_ite, s_for_, s_wh, s_ret, s_retN, s_brk, s_cnt, s_pas, ss_nil, ss_cons, sq_nx, sq_rt, sq_bk, sq_ct, rn_nx, rn_rt, evAsg, startG, putNm, giveUp, Dl.at_non, Dl.at_bl, Dl.at_int, Dl.at_str, Dl.at_lst, Dl.at_tup, Dl.at_dic, Dl.mt_non, Dl.mt_bl, Dl.mt_int, Dl.mt_str, Dl.mt_lst, Dl.mt_tup, Dl.mt_dic, fre, esc, escs, esci, getG, asI, asB, dTru, dNot, dNeg, BOp.fo, COp.fo, Bi.fo, onOwn, evApp, evExt, evSetL, evSetD, evAug, AOp.fo, dApp, dExt, dTuple, dList, dInt, dAbs, dLen, dItems, killG, unown, offG, Tg.put, setAll, blkG, wipeG, stepC, stepF, stepD, vAnd, vOr, vChain, c1', c2', L', in_K, fit, eK_atom, eK_mut, h1']
end K47

set_option Elab.async false
set_option linter.all false
set_option maxRecDepth 100000
set_option maxHeartbeats 2000000
namespace K47
open Dl PySem
open L2 (atI ixN)
/-! ### the law's own comparison -/
theorem is_integer {k : Nat} (hk : 1 ≤ k) (i : Int) : den G Pf k 9 [.int i] = some (.bool true) := by
  rw [den_eq (fd := F__law_is_integer) hk rfl rfl]
  simp -implicitDefEqProofs -dsimp [F__law_is_integer, b__law_is_integer, e_var, e_int, e_str, e_bl, e_non, e_glb, e_bin, e_cmp, e_chain, e_neg, e_not, e_and, e_or, e_one, e_ite, e_tup, e_lst, e_dic, e_idx, e_dget, e_slc, e_get1, e_get2, e_call, e_bi, e_isa, e_comp, e_comp2, e_dcomp, es_nil, es_cons, eo_no, eo_yes, ec_no, ec_yes, ei_seq, ei_rng1, ei_rng2, s_asg, s_aug, s_setL, s_setD, s_app, s_ext, s_pop, s_ite, s_for_, s_wh, s_ret, s_retN, s_brk, s_cnt, s_pas, ss_nil, ss_cons, sq_nx, sq_rt, sq_bk, sq_ct, rn_nx, rn_rt, evAsg, startG, putNm, giveUp, Dl.at_non, Dl.at_bl, Dl.at_int, Dl.at_str, Dl.at_lst, Dl.at_tup, Dl.at_dic, Dl.mt_non, Dl.mt_bl, Dl.mt_int, Dl.mt_str, Dl.mt_lst, Dl.mt_tup, Dl.mt_dic, fre, esc, escs, esci, getG, asI, asB, dTru, dNot, dNeg, BOp.fo, COp.fo, Bi.fo, onOwn, evApp, evExt, evSetL, evSetD, evAug, AOp.fo, dApp, dExt, dTuple, dList, dInt, dAbs, dLen, dItems, killG, unown, offG, Tg.put, setAll, blkG, wipeG, stepC, stepF, stepD, vAnd, vOr, vChain, Ty.s, isa_int (d := .int i) rfl, isa_bool (d := .int i) rfl, PyData.isInt, PyData.isBool]
theorem law_is : ∀ (k : Nat) (d : D), okIs d = true → d.depth + 2 ≤ k → den G Pf k 10 [d, d] = some (.bool true)
  | 0, d, _, hk => by omega
  | k + 1, d, h, hk => by
    have hp := okIs_plain d h
    rw [den_eq (fd := F__law_is) (by omega) rfl rfl]
    rw [Nat.add_sub_cancel]
    cases d with
    | none => simp -implicitDefEqProofs -dsimp [F__law_is, b__law_is, e_var, e_int, e_str, e_bl, e_non, e_glb, e_bin, e_cmp, e_chain, e_neg, e_not, e_and, e_or, e_one, e_ite, e_tup, e_lst, e_dic, e_idx, e_dget, e_slc, e_get1, e_get2, e_call, e_bi, e_isa, e_comp, e_comp2, e_dcomp, es_nil, es_cons, eo_no, eo_yes, ec_no, ec_yes, ei_seq, ei_rng1, ei_rng2, s_asg, s_aug, s_setL, s_setD, s_app, s_ext, s_pop, s_ite, s_for_, s_wh, s_ret, s_retN, s_brk, s_cnt, s_pas, ss_nil, ss_cons, sq_nx, sq_rt, sq_bk, sq_ct, rn_nx, rn_rt, evAsg, startG, putNm, giveUp, Dl.at_non, Dl.at_bl, Dl.at_int, Dl.at_str, Dl.at_lst, Dl.at_tup, Dl.at_dic, Dl.mt_non, Dl.mt_bl, Dl.mt_int, Dl.mt_str, Dl.mt_lst, Dl.mt_tup, Dl.mt_dic, fre, esc, escs, esci, getG, asI, asB, dTru, dNot, dNeg, BOp.fo, COp.fo, Bi.fo, onOwn, evApp, evExt, evSetL, evSetD, evAug, AOp.fo, dApp, dExt, dTuple, dList, dInt, dAbs, dLen, dItems, killG, unown, offG, Tg.put, setAll, blkG, wipeG, stepC, stepF, stepD, vAnd, vOr, vChain, isNon]
    | bool b => simp -implicitDefEqProofs -dsimp [F__law_is, b__law_is, e_var, e_int, e_str, e_bl, e_non, e_glb, e_bin, e_cmp, e_chain, e_neg, e_not, e_and, e_or, e_one, e_ite, e_tup, e_lst, e_dic, e_idx, e_dget, e_slc, e_get1, e_get2, e_call, e_bi, e_isa, e_comp, e_comp2, e_dcomp, es_nil, es_cons, eo_no, eo_yes, ec_no, ec_yes, ei_seq, ei_rng1, ei_rng2, s_asg, s_aug, s_setL, s_setD, s_app, s_ext, s_pop, s_ite, s_for_, s_wh, s_ret, s_retN, s_brk, s_cnt, s_pas, ss_nil, ss_cons, sq_nx, sq_rt, sq_bk, sq_ct, rn_nx, rn_rt, evAsg, startG, putNm, giveUp, Dl.at_non, Dl.at_bl, Dl.at_int, Dl.at_str, Dl.at_lst, Dl.at_tup, Dl.at_dic, Dl.mt_non, Dl.mt_bl, Dl.mt_int, Dl.mt_str, Dl.mt_lst, Dl.mt_tup, Dl.mt_dic, fre, esc, escs, esci, getG, asI, asB, dTru, dNot, dNeg, BOp.fo, COp.fo, Bi.fo, onOwn, evApp, evExt, evSetL, evSetD, evAug, AOp.fo, dApp, dExt, dTuple, dList, dInt, dAbs, dLen, dItems, killG, unown, offG, Tg.put, setAll, blkG, wipeG, stepC, stepF, stepD, vAnd, vOr, vChain, isNon, Ty.s, isa_bool hp, PyData.isBool]
    | int i => simp -implicitDefEqProofs -dsimp [F__law_is, b__law_is, e_var, e_int, e_str, e_bl, e_non, e_glb, e_bin, e_cmp, e_chain, e_neg, e_not, e_and, e_or, e_one, e_ite, e_tup, e_lst, e_dic, e_idx, e_dget, e_slc, e_get1, e_get2, e_call, e_bi, e_isa, e_comp, e_comp2, e_dcomp, es_nil, es_cons, eo_no, eo_yes, ec_no, ec_yes, ei_seq, ei_rng1, ei_rng2, s_asg, s_aug, s_setL, s_setD, s_app, s_ext, s_pop, s_ite, s_for_, s_wh, s_ret, s_retN, s_brk, s_cnt, s_pas, ss_nil, ss_cons, sq_nx, sq_rt, sq_bk, sq_ct, rn_nx, rn_rt, evAsg, startG, putNm, giveUp, Dl.at_non, Dl.at_bl, Dl.at_int, Dl.at_str, Dl.at_lst, Dl.at_tup, Dl.at_dic, Dl.mt_non, Dl.mt_bl, Dl.mt_int, Dl.mt_str, Dl.mt_lst, Dl.mt_tup, Dl.mt_dic, fre, esc, escs, esci, getG, asI, asB, dTru, dNot, dNeg, BOp.fo, COp.fo, Bi.fo, onOwn, evApp, evExt, evSetL, evSetD, evAug, AOp.fo, dApp, dExt, dTuple, dList, dInt, dAbs, dLen, dItems, killG, unown, offG, Tg.put, setAll, blkG, wipeG, stepC, stepF, stepD, vAnd, vOr, vChain, isNon, Ty.s, isa_bool hp, isa_int hp, PyData.isBool, PyData.isInt, is_integer (k := k) (by simp [PyData.depth] at hk; omega)]
    | str x => simp -implicitDefEqProofs -dsimp [F__law_is, b__law_is, e_var, e_int, e_str, e_bl, e_non, e_glb, e_bin, e_cmp, e_chain, e_neg, e_not, e_and, e_or, e_one, e_ite, e_tup, e_lst, e_dic, e_idx, e_dget, e_slc, e_get1, e_get2, e_call, e_bi, e_isa, e_comp, e_comp2, e_dcomp, es_nil, es_cons, eo_no, eo_yes, ec_no, ec_yes, ei_seq, ei_rng1, ei_rng2, s_asg, s_aug, s_setL, s_setD, s_app, s_ext, s_pop, s_ite, s_for_, s_wh, s_ret, s_retN, s_brk, s_cnt, s_pas, ss_nil, ss_cons, sq_nx, sq_rt, sq_bk, sq_ct, rn_nx, rn_rt, evAsg, startG, putNm, giveUp, Dl.at_non, Dl.at_bl, Dl.at_int, Dl.at_str, Dl.at_lst, Dl.at_tup, Dl.at_dic, Dl.mt_non, Dl.mt_bl, Dl.mt_int, Dl.mt_str, Dl.mt_lst, Dl.mt_tup, Dl.mt_dic, fre, esc, escs, esci, getG, asI, asB, dTru, dNot, dNeg, BOp.fo, COp.fo, Bi.fo, onOwn, evApp, evExt, evSetL, evSetD, evAug, AOp.fo, dApp, dExt, dTuple, dList, dInt, dAbs, dLen, dItems, killG, unown, offG, Tg.put, setAll, blkG, wipeG, stepC, stepF, stepD, vAnd, vOr, vChain, isNon, Ty.s, isa_bool hp, isa_int hp, isa_str hp, PyData.isBool, PyData.isInt, PyData.isStr]
    | tuple ds =>
      simp only [okIs, Bool.and_eq_true, decide_eq_true_eq] at h
      simp only [PyData.depth] at hk
      have L : ev G (den G Pf k) C1__law_is [some (false, .tuple ds), some (false, .tuple ds), none] = some (.list ((List.range ds.length).map fun _ => .bool true)) := by
        unfold C1__law_is
        refine ev_comp (evi_rng1 (n := ds.length) (by simp -implicitDefEqProofs -dsimp [e_var, e_int, e_str, e_bl, e_non, e_glb, e_bin, e_cmp, e_chain, e_neg, e_not, e_and, e_or, e_one, e_ite, e_tup, e_lst, e_dic, e_idx, e_dget, e_slc, e_get1, e_get2, e_call, e_bi, e_isa, e_comp, e_comp2, e_dcomp, es_nil, es_cons, eo_no, eo_yes, ec_no, ec_yes, ei_seq, ei_rng1, ei_rng2, s_asg, s_aug, s_setL, s_setD, s_app, s_ext, s_pop, s_ite, s_for_, s_wh, s_ret, s_retN, s_brk, s_cnt, s_pas, ss_nil, ss_cons, sq_nx, sq_rt, sq_bk, sq_ct, rn_nx, rn_rt, evAsg, startG, putNm, giveUp, Dl.at_non, Dl.at_bl, Dl.at_int, Dl.at_str, Dl.at_lst, Dl.at_tup, Dl.at_dic, Dl.mt_non, Dl.mt_bl, Dl.mt_int, Dl.mt_str, Dl.mt_lst, Dl.mt_tup, Dl.mt_dic, fre, esc, escs, esci, getG, asI, asB, dTru, dNot, dNeg, BOp.fo, COp.fo, Bi.fo, onOwn, evApp, evExt, evSetL, evSetD, evAug, AOp.fo, dApp, dExt, dTuple, dList, dInt, dAbs, dLen, dItems, killG, unown, offG, Tg.put, setAll, blkG, wipeG, stepC, stepF, stepD, vAnd, vOr, vChain]) h.1) ?_
        refine compL_m (fun i : Nat => PyData.int i) _ _ fun i hi => ?_
        rw [List.mem_range] at hi
        have hm : ds[i] ∈ ds := List.getElem_mem hi
        have ih := law_is k ds[i] (okAll_mem h.2 hm) (by have := depth_mem hm; omega)
        simp -implicitDefEqProofs -dsimp [e_var, e_int, e_str, e_bl, e_non, e_glb, e_bin, e_cmp, e_chain, e_neg, e_not, e_and, e_or, e_one, e_ite, e_tup, e_lst, e_dic, e_idx, e_dget, e_slc, e_get1, e_get2, e_call, e_bi, e_isa, e_comp, e_comp2, e_dcomp, es_nil, es_cons, eo_no, eo_yes, ec_no, ec_yes, ei_seq, ei_rng1, ei_rng2, s_asg, s_aug, s_setL, s_setD, s_app, s_ext, s_pop, s_ite, s_for_, s_wh, s_ret, s_retN, s_brk, s_cnt, s_pas, ss_nil, ss_cons, sq_nx, sq_rt, sq_bk, sq_ct, rn_nx, rn_rt, evAsg, startG, putNm, giveUp, Dl.at_non, Dl.at_bl, Dl.at_int, Dl.at_str, Dl.at_lst, Dl.at_tup, Dl.at_dic, Dl.mt_non, Dl.mt_bl, Dl.mt_int, Dl.mt_str, Dl.mt_lst, Dl.mt_tup, Dl.mt_dic, fre, esc, escs, esci, getG, asI, asB, dTru, dNot, dNeg, BOp.fo, COp.fo, Bi.fo, onOwn, evApp, evExt, evSetL, evSetD, evAug, AOp.fo, dApp, dExt, dTuple, dList, dInt, dAbs, dLen, dItems, killG, unown, offG, Tg.put, setAll, blkG, wipeG, stepC, stepF, stepD, vAnd, vOr, vChain, dIdx, atI_nat ds i hi, ih]
      have hA := dAll_map (fun _ => true) (List.range ds.length)
      simp -implicitDefEqProofs -dsimp [F__law_is, b__law_is, e_var, e_int, e_str, e_bl, e_non, e_glb, e_bin, e_cmp, e_chain, e_neg, e_not, e_and, e_or, e_one, e_ite, e_tup, e_lst, e_dic, e_idx, e_dget, e_slc, e_get1, e_get2, e_call, e_bi, e_isa, e_comp, e_comp2, e_dcomp, es_nil, es_cons, eo_no, eo_yes, ec_no, ec_yes, ei_seq, ei_rng1, ei_rng2, s_asg, s_aug, s_setL, s_setD, s_app, s_ext, s_pop, s_ite, s_for_, s_wh, s_ret, s_retN, s_brk, s_cnt, s_pas, ss_nil, ss_cons, sq_nx, sq_rt, sq_bk, sq_ct, rn_nx, rn_rt, evAsg, startG, putNm, giveUp, Dl.at_non, Dl.at_bl, Dl.at_int, Dl.at_str, Dl.at_lst, Dl.at_tup, Dl.at_dic, Dl.mt_non, Dl.mt_bl, Dl.mt_int, Dl.mt_str, Dl.mt_lst, Dl.mt_tup, Dl.mt_dic, fre, esc, escs, esci, getG, asI, asB, dTru, dNot, dNeg, BOp.fo, COp.fo, Bi.fo, onOwn, evApp, evExt, evSetL, evSetD, evAug, AOp.fo, dApp, dExt, dTuple, dList, dInt, dAbs, dLen, dItems, killG, unown, offG, Tg.put, setAll, blkG, wipeG, stepC, stepF, stepD, vAnd, vOr, vChain, isNon, Ty.s, isa_bool hp, isa_int hp, isa_str hp, isa_tuple hp, PyData.isBool, PyData.isInt, PyData.isStr, PyData.isTuple, L, hA]
    | list ds => simp [okIs] at h
    | dict ds => simp [okIs] at h
/-! ### the law's levels -/
def eLv (f : II → Bool) : D := eDic ((P 10).map fun p => (p, PyData.bool (f p)))
def cL (f : II → Bool) (p q : II) : Bool := f (p.1, q.1 - p.1 + p.2) && f (q.1 - p.1, p.1 + q.2 - p.2)
theorem get_Lv (f : II → Bool) (i j : Int) (h : (i, j) ∈ P 10) : dGet (eLv f) (.tuple [.int i, .int j]) = some (.bool (f (i, j))) := by
  have := dAsk_ky (κ := II) ((P 10).map fun p => (p, PyData.bool (f p))) (i, j)
  unfold dGet
  rw [show PyData.tuple [.int i, .int j] = Ky.e ((i, j) : II) from rfl]
  unfold eLv
  rw [this]
  have : ((P 10).map fun p => (p, PyData.bool (f p))).find? (fun e => decide (e.1 = (i, j))) = some ((i, j), .bool (f (i, j))) := by
    generalize P 10 = Q at h
    induction Q with
    | nil => simp at h
    | cons x Q ih =>
      rw [List.map_cons, List.find?_cons]
      by_cases e : x = (i, j)
      · subst e
        simp
      · rw [show decide (x = (i, j)) = false by simp [e]]
        exact ih (by simpa [Ne.symm e] using h)
  rw [this]
  rfl
theorem ls1 (Φ : Fs) (a b x : Nat) (hx : x ≤ a) (hb : a + b ≤ 10) (f : II → Bool) : evS G Φ L1__law_split [some (false, .int a), some (false, .int b), some (false, eLv f), some (false, .int x), none] = some (lkF eII (spy (cL f) a b x) [some (false, .int a), some (false, .int b), some (false, eLv f), some (false, .int x), none]) := by
  unfold L1__law_split
  rw [for_rng1 (n := b + 1) (by simp -implicitDefEqProofs -dsimp [e_var, e_int, e_str, e_bl, e_non, e_glb, e_bin, e_cmp, e_chain, e_neg, e_not, e_and, e_or, e_one, e_ite, e_tup, e_lst, e_dic, e_idx, e_dget, e_slc, e_get1, e_get2, e_call, e_bi, e_isa, e_comp, e_comp2, e_dcomp, es_nil, es_cons, eo_no, eo_yes, ec_no, ec_yes, ei_seq, ei_rng1, ei_rng2, s_asg, s_aug, s_setL, s_setD, s_app, s_ext, s_pop, s_ite, s_for_, s_wh, s_ret, s_retN, s_brk, s_cnt, s_pas, ss_nil, ss_cons, sq_nx, sq_rt, sq_bk, sq_ct, rn_nx, rn_rt, evAsg, startG, putNm, giveUp, Dl.at_non, Dl.at_bl, Dl.at_int, Dl.at_str, Dl.at_lst, Dl.at_tup, Dl.at_dic, Dl.mt_non, Dl.mt_bl, Dl.mt_int, Dl.mt_str, Dl.mt_lst, Dl.mt_tup, Dl.mt_dic, fre, esc, escs, esci, getG, asI, asB, dTru, dNot, dNeg, BOp.fo, COp.fo, Bi.fo, onOwn, evApp, evExt, evSetL, evSetD, evAug, AOp.fo, dApp, dExt, dTuple, dList, dInt, dAbs, dLen, dItems, killG, unown, offG, Tg.put, setAll, blkG, wipeG, stepC, stepF, stepD, vAnd, vOr, vChain]) (by omega)]
  refine Eq.trans (evFor_lk (t := .nm 4) (body := evSs G Φ B1__law_split) (kl := [4]) (fun i : Nat => PyData.int i) (fun (y : Nat) => if cL f ((x : Int), (y : Int)) ((a : Int), (b : Int)) = true then some ((x : Int), (y : Int)) else none) eII
    (fun y => [some (false, .int a), some (false, .int b), some (false, eLv f), some (false, .int x), some (false, .int y)]) (fun y => [some (false, .int a), some (false, .int b), some (false, eLv f), some (false, .int x), some (false, .int y)]) (List.range (b + 1)) (fun y hy => ⟨rfl, ?_, by simp -implicitDefEqProofs -dsimp [e_var, e_int, e_str, e_bl, e_non, e_glb, e_bin, e_cmp, e_chain, e_neg, e_not, e_and, e_or, e_one, e_ite, e_tup, e_lst, e_dic, e_idx, e_dget, e_slc, e_get1, e_get2, e_call, e_bi, e_isa, e_comp, e_comp2, e_dcomp, es_nil, es_cons, eo_no, eo_yes, ec_no, ec_yes, ei_seq, ei_rng1, ei_rng2, s_asg, s_aug, s_setL, s_setD, s_app, s_ext, s_pop, s_ite, s_for_, s_wh, s_ret, s_retN, s_brk, s_cnt, s_pas, ss_nil, ss_cons, sq_nx, sq_rt, sq_bk, sq_ct, rn_nx, rn_rt, evAsg, startG, putNm, giveUp, Dl.at_non, Dl.at_bl, Dl.at_int, Dl.at_str, Dl.at_lst, Dl.at_tup, Dl.at_dic, Dl.mt_non, Dl.mt_bl, Dl.mt_int, Dl.mt_str, Dl.mt_lst, Dl.mt_tup, Dl.mt_dic, fre, esc, escs, esci, getG, asI, asB, dTru, dNot, dNeg, BOp.fo, COp.fo, Bi.fo, onOwn, evApp, evExt, evSetL, evSetD, evAug, AOp.fo, dApp, dExt, dTuple, dList, dInt, dAbs, dLen, dItems, killG, unown, offG, Tg.put, setAll, blkG, wipeG, stepC, stepF, stepD, vAnd, vOr, vChain]⟩)) rfl
  rw [List.mem_range] at hy
  have g1 := get_Lv f (x : Int) ((a : Int) - x + y) ((mem_P 10 _ _).mpr (by omega))
  have g2 := get_Lv f ((a : Int) - x) ((x : Int) + b - y) ((mem_P 10 _ _).mpr (by omega))
  unfold cL
  cases h1 : f ((x : Int), (a : Int) - x + y) <;> cases h2 : f ((a : Int) - x, (x : Int) + b - y) <;> (rw [h1] at g1; rw [h2] at g2; simp -implicitDefEqProofs -dsimp [e_var, e_int, e_str, e_bl, e_non, e_glb, e_bin, e_cmp, e_chain, e_neg, e_not, e_and, e_or, e_one, e_ite, e_tup, e_lst, e_dic, e_idx, e_dget, e_slc, e_get1, e_get2, e_call, e_bi, e_isa, e_comp, e_comp2, e_dcomp, es_nil, es_cons, eo_no, eo_yes, ec_no, ec_yes, ei_seq, ei_rng1, ei_rng2, s_asg, s_aug, s_setL, s_setD, s_app, s_ext, s_pop, s_ite, s_for_, s_wh, s_ret, s_retN, s_brk, s_cnt, s_pas, ss_nil, ss_cons, sq_nx, sq_rt, sq_bk, sq_ct, rn_nx, rn_rt, evAsg, startG, putNm, giveUp, Dl.at_non, Dl.at_bl, Dl.at_int, Dl.at_str, Dl.at_lst, Dl.at_tup, Dl.at_dic, Dl.mt_non, Dl.mt_bl, Dl.mt_int, Dl.mt_str, Dl.mt_lst, Dl.mt_tup, Dl.mt_dic, fre, esc, escs, esci, getG, asI, asB, dTru, dNot, dNeg, BOp.fo, COp.fo, Bi.fo, onOwn, evApp, evExt, evSetL, evSetD, evAug, AOp.fo, dApp, dExt, dTuple, dList, dInt, dAbs, dLen, dItems, killG, unown, offG, Tg.put, setAll, blkG, wipeG, stepC, stepF, stepD, vAnd, vOr, vChain, B1__law_split, g1, g2, h1, h2, fit, eII, lkF_none, lkF_some])
theorem law_split {k : Nat} (hk : 1 ≤ k) (a b : Nat) (hb : a + b ≤ 10) (f : II → Bool) : den G Pf k 12 [.int a, .int b, eLv f] = some (eO (spx (cL f) a b)) := by
  rw [den_eq (fd := F__law_split) hk rfl rfl]
  have L : evS G (den G Pf (k - 1)) L2__law_split [some (false, .int a), some (false, .int b), some (false, eLv f), none, none] = some (lkF eII (spx (cL f) a b) [some (false, .int a), some (false, .int b), some (false, eLv f), none, none]) := by
    unfold L2__law_split
    rw [for_rng1 (n := a + 1) (by simp -implicitDefEqProofs -dsimp [e_var, e_int, e_str, e_bl, e_non, e_glb, e_bin, e_cmp, e_chain, e_neg, e_not, e_and, e_or, e_one, e_ite, e_tup, e_lst, e_dic, e_idx, e_dget, e_slc, e_get1, e_get2, e_call, e_bi, e_isa, e_comp, e_comp2, e_dcomp, es_nil, es_cons, eo_no, eo_yes, ec_no, ec_yes, ei_seq, ei_rng1, ei_rng2, s_asg, s_aug, s_setL, s_setD, s_app, s_ext, s_pop, s_ite, s_for_, s_wh, s_ret, s_retN, s_brk, s_cnt, s_pas, ss_nil, ss_cons, sq_nx, sq_rt, sq_bk, sq_ct, rn_nx, rn_rt, evAsg, startG, putNm, giveUp, Dl.at_non, Dl.at_bl, Dl.at_int, Dl.at_str, Dl.at_lst, Dl.at_tup, Dl.at_dic, Dl.mt_non, Dl.mt_bl, Dl.mt_int, Dl.mt_str, Dl.mt_lst, Dl.mt_tup, Dl.mt_dic, fre, esc, escs, esci, getG, asI, asB, dTru, dNot, dNeg, BOp.fo, COp.fo, Bi.fo, onOwn, evApp, evExt, evSetL, evSetD, evAug, AOp.fo, dApp, dExt, dTuple, dList, dInt, dAbs, dLen, dItems, killG, unown, offG, Tg.put, setAll, blkG, wipeG, stepC, stepF, stepD, vAnd, vOr, vChain]) (by omega)]
    refine Eq.trans (evFor_lk (t := .nm 3) (body := evSs G (den G Pf (k - 1)) B2__law_split) (kl := [3, 4]) (fun i : Nat => PyData.int i) (fun (x : Nat) => spy (cL f) a b x) eII
      (fun x => [some (false, .int a), some (false, .int b), some (false, eLv f), some (false, .int x), none]) (fun x => [some (false, .int a), some (false, .int b), some (false, eLv f), some (false, .int x), none]) (List.range (a + 1)) (fun x hx => ⟨rfl, ?_, by simp -implicitDefEqProofs -dsimp [e_var, e_int, e_str, e_bl, e_non, e_glb, e_bin, e_cmp, e_chain, e_neg, e_not, e_and, e_or, e_one, e_ite, e_tup, e_lst, e_dic, e_idx, e_dget, e_slc, e_get1, e_get2, e_call, e_bi, e_isa, e_comp, e_comp2, e_dcomp, es_nil, es_cons, eo_no, eo_yes, ec_no, ec_yes, ei_seq, ei_rng1, ei_rng2, s_asg, s_aug, s_setL, s_setD, s_app, s_ext, s_pop, s_ite, s_for_, s_wh, s_ret, s_retN, s_brk, s_cnt, s_pas, ss_nil, ss_cons, sq_nx, sq_rt, sq_bk, sq_ct, rn_nx, rn_rt, evAsg, startG, putNm, giveUp, Dl.at_non, Dl.at_bl, Dl.at_int, Dl.at_str, Dl.at_lst, Dl.at_tup, Dl.at_dic, Dl.mt_non, Dl.mt_bl, Dl.mt_int, Dl.mt_str, Dl.mt_lst, Dl.mt_tup, Dl.mt_dic, fre, esc, escs, esci, getG, asI, asB, dTru, dNot, dNeg, BOp.fo, COp.fo, Bi.fo, onOwn, evApp, evExt, evSetL, evSetD, evAug, AOp.fo, dApp, dExt, dTuple, dList, dInt, dAbs, dLen, dItems, killG, unown, offG, Tg.put, setAll, blkG, wipeG, stepC, stepF, stepD, vAnd, vOr, vChain]⟩)) rfl
    rw [List.mem_range] at hx
    unfold B2__law_split
    rw [ss_cons, ls1 _ a b x (by omega) hb f]
    cases spy (cL f) a b x <;> simp -implicitDefEqProofs -dsimp [e_var, e_int, e_str, e_bl, e_non, e_glb, e_bin, e_cmp, e_chain, e_neg, e_not, e_and, e_or, e_one, e_ite, e_tup, e_lst, e_dic, e_idx, e_dget, e_slc, e_get1, e_get2, e_call, e_bi, e_isa, e_comp, e_comp2, e_dcomp, es_nil, es_cons, eo_no, eo_yes, ec_no, ec_yes, ei_seq, ei_rng1, ei_rng2, s_asg, s_aug, s_setL, s_setD, s_app, s_ext, s_pop, s_ite, s_for_, s_wh, s_ret, s_retN, s_brk, s_cnt, s_pas, ss_nil, ss_cons, sq_nx, sq_rt, sq_bk, sq_ct, rn_nx, rn_rt, evAsg, startG, putNm, giveUp, Dl.at_non, Dl.at_bl, Dl.at_int, Dl.at_str, Dl.at_lst, Dl.at_tup, Dl.at_dic, Dl.mt_non, Dl.mt_bl, Dl.mt_int, Dl.mt_str, Dl.mt_lst, Dl.mt_tup, Dl.mt_dic, fre, esc, escs, esci, getG, asI, asB, dTru, dNot, dNeg, BOp.fo, COp.fo, Bi.fo, onOwn, evApp, evExt, evSetL, evSetD, evAug, AOp.fo, dApp, dExt, dTuple, dList, dInt, dAbs, dLen, dItems, killG, unown, offG, Tg.put, setAll, blkG, wipeG, stepC, stepF, stepD, vAnd, vOr, vChain, lkF_none, lkF_some]
  cases e : spx (cL f) a b <;> (rw [e] at L; simp -implicitDefEqProofs -dsimp [F__law_split, b__law_split, e_var, e_int, e_str, e_bl, e_non, e_glb, e_bin, e_cmp, e_chain, e_neg, e_not, e_and, e_or, e_one, e_ite, e_tup, e_lst, e_dic, e_idx, e_dget, e_slc, e_get1, e_get2, e_call, e_bi, e_isa, e_comp, e_comp2, e_dcomp, es_nil, es_cons, eo_no, eo_yes, ec_no, ec_yes, ei_seq, ei_rng1, ei_rng2, s_asg, s_aug, s_setL, s_setD, s_app, s_ext, s_pop, s_ite, s_for_, s_wh, s_ret, s_retN, s_brk, s_cnt, s_pas, ss_nil, ss_cons, sq_nx, sq_rt, sq_bk, sq_ct, rn_nx, rn_rt, evAsg, startG, putNm, giveUp, Dl.at_non, Dl.at_bl, Dl.at_int, Dl.at_str, Dl.at_lst, Dl.at_tup, Dl.at_dic, Dl.mt_non, Dl.mt_bl, Dl.mt_int, Dl.mt_str, Dl.mt_lst, Dl.mt_tup, Dl.mt_dic, fre, esc, escs, esci, getG, asI, asB, dTru, dNot, dNeg, BOp.fo, COp.fo, Bi.fo, onOwn, evApp, evExt, evSetL, evSetD, evAug, AOp.fo, dApp, dExt, dTuple, dList, dInt, dAbs, dLen, dItems, killG, unown, offG, Tg.put, setAll, blkG, wipeG, stepC, stepF, stepD, vAnd, vOr, vChain, L, eO, lkF_none, lkF_some])
end K47

set_option Elab.async false
set_option linter.all false
set_option maxRecDepth 100000
set_option maxHeartbeats 2000000
namespace K47
open Dl PySem
open L2 (atI ixN)
/-! ### the table of levels -/
def nxL (f : II → Bool) : II → Bool := fun p => decide (p.1 + p.2 ≤ 1) || (spx (cL f) p.1.toNat p.2.toNat).isSome
def Lv : Nat → II → Bool
  | 0 => fun p => decide (p.1 + p.2 ≤ 1)
  | t + 1 => nxL (Lv t)
def lvs (t : Nat) : List D := (List.range t).map fun i => eLv (Lv i)
theorem lvs_succ (t : Nat) : lvs (t + 1) = lvs t ++ [eLv (Lv t)] := by
  unfold lvs
  rw [List.range_succ, List.map_append]
  rfl
def eQ (f : II → Bool) (Q : List II) : D := eDic (Q.map fun p => (p, PyData.bool (f p)))
theorem eQ_atom (f : II → Bool) (Q : List II) : isAtom (eQ f Q) = false := by unfold eQ eDic; exact Eq.trans rfl rfl
theorem eQ_mut (f : II → Bool) (Q : List II) : isMut (eQ f Q) = true := by unfold eQ eDic; exact Eq.trans rfl rfl
theorem put_Q (f : II → Bool) (Q : List II) (i j : Int) (h : (i, j) ∉ Q) (hl : Q.length ≤ 1000) : dPut (eQ f Q) (.tuple [.int i, .int j]) (.bool (f (i, j))) = some (eQ f (Q ++ [(i, j)])) := by
  have := dPut_ky (κ := II) (Q.map fun p => (p, PyData.bool (f p))) (i, j) (.bool (f (i, j))) (by rw [List.length_map]; omega)
  rw [stKy_new _ _ _ (fun e he z => by
    obtain ⟨p, hp, rfl⟩ := List.mem_map.mp he
    exact h (z ▸ hp))] at this
  refine Eq.trans this ?_
  unfold eQ
  rw [List.map_append]
  rfl
/-- one cell's test -/
theorem cell {k : Nat} (hk : 1 ≤ k) (t a b : Nat) (hb : a + b ≤ 10) (Q : List II) (hq : ((a : Int), (b : Int)) ∉ Q) (hl : Q.length ≤ 1000) : evSs G (den G Pf k) B1__law_levels [some (false, .int 10), some (false, .int 9), some (true, .list (lvs t)), some (false, .int t), some (true, eQ (Lv t) Q), some (false, .int a), some (false, .int b), none] = some (.nx [some (false, .int 10), some (false, .int 9), some (true, .list (lvs t)), some (false, .int t), some (true, eQ (Lv t) (Q ++ [((a : Int), (b : Int))])), some (false, .int a), some (false, .int b), some (false, .bool (Lv t ((a : Int), (b : Int))))]) := by
  have pq := put_Q (Lv t) Q a b hq hl
  cases t with
  | zero =>
    have e : Lv 0 ((a : Int), (b : Int)) = decide ((a : Int) + b ≤ 1) := rfl
    rw [e] at pq ⊢
    cases h : decide ((a : Int) + b ≤ 1) <;> (rw [h] at pq; simp -implicitDefEqProofs -dsimp [B1__law_levels, e_var, e_int, e_str, e_bl, e_non, e_glb, e_bin, e_cmp, e_chain, e_neg, e_not, e_and, e_or, e_one, e_ite, e_tup, e_lst, e_dic, e_idx, e_dget, e_slc, e_get1, e_get2, e_call, e_bi, e_isa, e_comp, e_comp2, e_dcomp, es_nil, es_cons, eo_no, eo_yes, ec_no, ec_yes, ei_seq, ei_rng1, ei_rng2, s_asg, s_aug, s_setL, s_setD, s_app, s_ext, s_pop, s_ite, s_for_, s_wh, s_ret, s_retN, s_brk, s_cnt, s_pas, ss_nil, ss_cons, sq_nx, sq_rt, sq_bk, sq_ct, rn_nx, rn_rt, evAsg, startG, putNm, giveUp, Dl.at_non, Dl.at_bl, Dl.at_int, Dl.at_str, Dl.at_lst, Dl.at_tup, Dl.at_dic, Dl.mt_non, Dl.mt_bl, Dl.mt_int, Dl.mt_str, Dl.mt_lst, Dl.mt_tup, Dl.mt_dic, fre, esc, escs, esci, getG, asI, asB, dTru, dNot, dNeg, BOp.fo, COp.fo, Bi.fo, onOwn, evApp, evExt, evSetL, evSetD, evAug, AOp.fo, dApp, dExt, dTuple, dList, dInt, dAbs, dLen, dItems, killG, unown, offG, Tg.put, setAll, blkG, wipeG, stepC, stepF, stepD, vAnd, vOr, vChain, h, pq, fit, eQ_atom, eQ_mut])
  | succ t =>
    have sp := law_split (k := k) hk a b hb (Lv t)
    have e : Lv (t + 1) ((a : Int), (b : Int)) = (decide ((a : Int) + b ≤ 1) || (spx (cL (Lv t)) a b).isSome) := rfl
    have il : dIdx (.list (lvs (t + 1))) (.int (-1)) = some (eLv (Lv t)) := by
      rw [lvs_succ]
      exact atI_last _ _
    have tp : (0 : Int) < ((t + 1 : Nat) : Int) := by omega
    rw [e] at pq ⊢
    by_cases h : (a : Int) + b ≤ 1
    · have h' : decide ((a : Int) + b ≤ 1) = true := decide_eq_true h
      rw [h', Bool.true_or] at pq
      simp -implicitDefEqProofs -dsimp [B1__law_levels, e_var, e_int, e_str, e_bl, e_non, e_glb, e_bin, e_cmp, e_chain, e_neg, e_not, e_and, e_or, e_one, e_ite, e_tup, e_lst, e_dic, e_idx, e_dget, e_slc, e_get1, e_get2, e_call, e_bi, e_isa, e_comp, e_comp2, e_dcomp, es_nil, es_cons, eo_no, eo_yes, ec_no, ec_yes, ei_seq, ei_rng1, ei_rng2, s_asg, s_aug, s_setL, s_setD, s_app, s_ext, s_pop, s_ite, s_for_, s_wh, s_ret, s_retN, s_brk, s_cnt, s_pas, ss_nil, ss_cons, sq_nx, sq_rt, sq_bk, sq_ct, rn_nx, rn_rt, evAsg, startG, putNm, giveUp, Dl.at_non, Dl.at_bl, Dl.at_int, Dl.at_str, Dl.at_lst, Dl.at_tup, Dl.at_dic, Dl.mt_non, Dl.mt_bl, Dl.mt_int, Dl.mt_str, Dl.mt_lst, Dl.mt_tup, Dl.mt_dic, fre, esc, escs, esci, getG, asI, asB, dTru, dNot, dNeg, BOp.fo, COp.fo, Bi.fo, onOwn, evApp, evExt, evSetL, evSetD, evAug, AOp.fo, dApp, dExt, dTuple, dList, dInt, dAbs, dLen, dItems, killG, unown, offG, Tg.put, setAll, blkG, wipeG, stepC, stepF, stepD, vAnd, vOr, vChain, h, pq, fit, eQ_atom, eQ_mut]
    · have h' : decide ((a : Int) + b ≤ 1) = false := decide_eq_false h
      rw [h', Bool.false_or] at pq
      cases e2 : spx (cL (Lv t)) a b with
      | none =>
        rw [e2] at pq sp
        have pq' : dPut (eQ (Lv (t + 1)) Q) (.tuple [.int a, .int b]) (.bool false) = _ := pq
        simp -implicitDefEqProofs -dsimp [B1__law_levels, e_var, e_int, e_str, e_bl, e_non, e_glb, e_bin, e_cmp, e_chain, e_neg, e_not, e_and, e_or, e_one, e_ite, e_tup, e_lst, e_dic, e_idx, e_dget, e_slc, e_get1, e_get2, e_call, e_bi, e_isa, e_comp, e_comp2, e_dcomp, es_nil, es_cons, eo_no, eo_yes, ec_no, ec_yes, ei_seq, ei_rng1, ei_rng2, s_asg, s_aug, s_setL, s_setD, s_app, s_ext, s_pop, s_ite, s_for_, s_wh, s_ret, s_retN, s_brk, s_cnt, s_pas, ss_nil, ss_cons, sq_nx, sq_rt, sq_bk, sq_ct, rn_nx, rn_rt, evAsg, startG, putNm, giveUp, Dl.at_non, Dl.at_bl, Dl.at_int, Dl.at_str, Dl.at_lst, Dl.at_tup, Dl.at_dic, Dl.mt_non, Dl.mt_bl, Dl.mt_int, Dl.mt_str, Dl.mt_lst, Dl.mt_tup, Dl.mt_dic, fre, esc, escs, esci, getG, asI, asB, dTru, dNot, dNeg, BOp.fo, COp.fo, Bi.fo, onOwn, evApp, evExt, evSetL, evSetD, evAug, AOp.fo, dApp, dExt, dTuple, dList, dInt, dAbs, dLen, dItems, killG, unown, offG, Tg.put, setAll, blkG, wipeG, stepC, stepF, stepD, vAnd, vOr, vChain, h, h', pq', fit, eQ_atom, eQ_mut, sp, il, tp, eO, isNon, eII, e2]
      | some p =>
        rw [e2] at pq sp
        have pq' : dPut (eQ (Lv (t + 1)) Q) (.tuple [.int a, .int b]) (.bool true) = _ := pq
        simp -implicitDefEqProofs -dsimp [B1__law_levels, e_var, e_int, e_str, e_bl, e_non, e_glb, e_bin, e_cmp, e_chain, e_neg, e_not, e_and, e_or, e_one, e_ite, e_tup, e_lst, e_dic, e_idx, e_dget, e_slc, e_get1, e_get2, e_call, e_bi, e_isa, e_comp, e_comp2, e_dcomp, es_nil, es_cons, eo_no, eo_yes, ec_no, ec_yes, ei_seq, ei_rng1, ei_rng2, s_asg, s_aug, s_setL, s_setD, s_app, s_ext, s_pop, s_ite, s_for_, s_wh, s_ret, s_retN, s_brk, s_cnt, s_pas, ss_nil, ss_cons, sq_nx, sq_rt, sq_bk, sq_ct, rn_nx, rn_rt, evAsg, startG, putNm, giveUp, Dl.at_non, Dl.at_bl, Dl.at_int, Dl.at_str, Dl.at_lst, Dl.at_tup, Dl.at_dic, Dl.mt_non, Dl.mt_bl, Dl.mt_int, Dl.mt_str, Dl.mt_lst, Dl.mt_tup, Dl.mt_dic, fre, esc, escs, esci, getG, asI, asB, dTru, dNot, dNeg, BOp.fo, COp.fo, Bi.fo, onOwn, evApp, evExt, evSetL, evSetD, evAug, AOp.fo, dApp, dExt, dTuple, dList, dInt, dAbs, dLen, dItems, killG, unown, offG, Tg.put, setAll, blkG, wipeG, stepC, stepF, stepD, vAnd, vOr, vChain, h, h', pq', fit, eQ_atom, eQ_mut, sp, il, tp, eO, isNon, eII, e2]
theorem lp_app {α β : Type} (g : α → β) : ∀ (xs : List α) (Q : List β), lp (fun x Q => Lp.nx (Q ++ [g x])) xs Q = Lp.nx (Q ++ xs.map g)
  | [], Q => by simp [lp]
  | x :: xs, Q => by
    refine Eq.trans (b := lp (fun x Q => Lp.nx (Q ++ [g x])) xs (Q ++ [g x])) rfl ?_
    rw [lp_app g xs]
    simp
theorem lp_flat {α β : Type} (g : α → List β) : ∀ (xs : List α) (Q : List β), lp (fun x Q => Lp.nx (Q ++ g x)) xs Q = Lp.nx (Q ++ xs.flatMap g)
  | [], Q => by simp [lp]
  | x :: xs, Q => by
    refine Eq.trans (b := lp (fun x Q => Lp.nx (Q ++ g x)) xs (Q ++ g x)) rfl ?_
    rw [lp_flat g xs]
    simp
theorem row {k : Nat} (hk : 1 ≤ k) (t a : Nat) (ha : a ≤ 10) (Q : List II) (hq : ∀ p ∈ Q, p.1 ≠ (a : Int)) (hl : Q.length ≤ 900) : evS G (den G Pf k) L1__law_levels [some (false, .int 10), some (false, .int 9), some (true, .list (lvs t)), some (false, .int t), some (true, eQ (Lv t) Q), some (false, .int a), none, none] = some (.nx [some (false, .int 10), some (false, .int 9), some (true, .list (lvs t)), some (false, .int t), some (true, eQ (Lv t) (Q ++ (List.range (11 - a)).map fun (b : Nat) => ((a : Int), (b : Int)))), some (false, .int a), none, none]) := by
  unfold L1__law_levels
  rw [for_rng1 (n := 11 - a) (by
    simp -implicitDefEqProofs -dsimp [e_var, e_int, e_str, e_bl, e_non, e_glb, e_bin, e_cmp, e_chain, e_neg, e_not, e_and, e_or, e_one, e_ite, e_tup, e_lst, e_dic, e_idx, e_dget, e_slc, e_get1, e_get2, e_call, e_bi, e_isa, e_comp, e_comp2, e_dcomp, es_nil, es_cons, eo_no, eo_yes, ec_no, ec_yes, ei_seq, ei_rng1, ei_rng2, s_asg, s_aug, s_setL, s_setD, s_app, s_ext, s_pop, s_ite, s_for_, s_wh, s_ret, s_retN, s_brk, s_cnt, s_pas, ss_nil, ss_cons, sq_nx, sq_rt, sq_bk, sq_ct, rn_nx, rn_rt, evAsg, startG, putNm, giveUp, Dl.at_non, Dl.at_bl, Dl.at_int, Dl.at_str, Dl.at_lst, Dl.at_tup, Dl.at_dic, Dl.mt_non, Dl.mt_bl, Dl.mt_int, Dl.mt_str, Dl.mt_lst, Dl.mt_tup, Dl.mt_dic, fre, esc, escs, esci, getG, asI, asB, dTru, dNot, dNeg, BOp.fo, COp.fo, Bi.fo, onOwn, evApp, evExt, evSetL, evSetD, evAug, AOp.fo, dApp, dExt, dTuple, dList, dInt, dAbs, dLen, dItems, killG, unown, offG, Tg.put, setAll, blkG, wipeG, stepC, stepF, stepD, vAnd, vOr, vChain]
    omega) (by omega)]
  have := evFor_lp (t := .nm 6) (body := evSs G (den G Pf k) B1__law_levels) (kl := [6, 7]) (fun i : Nat => PyData.int i) (fun Q : List II => [some (false, .int 10), some (false, .int 9), some (true, .list (lvs t)), some (false, .int t), some (true, eQ (Lv t) Q), some (false, .int a), none, none]) (fun (b : Nat) Q => .nx (Q ++ [((a : Int), (b : Int))])) (fun xs Q => xs.Nodup ∧ (∀ x ∈ xs, a + x ≤ 10 ∧ ((a : Int), ((x : Nat) : Int)) ∉ Q) ∧ Q.length + xs.length ≤ 1000)
    (fun x xs Q ⟨h1, h2, h3⟩ => ⟨[some (false, .int 10), some (false, .int 9), some (true, .list (lvs t)), some (false, .int t), some (true, eQ (Lv t) Q), some (false, .int a), some (false, .int x), none], _, rfl, cell hk t a x (h2 x (by simp)).1 Q (h2 x (by simp)).2 (by omega), by simp [Fit, killG], fun s' hs => by
      cases hs
      rw [List.nodup_cons] at h1
      refine ⟨h1.2, fun y hy => ⟨(h2 y (by simp [hy])).1, fun z => ?_⟩, by simp at h3 ⊢; omega⟩
      rcases List.mem_append.mp z with z | z
      · exact (h2 y (by simp [hy])).2 z
      · rw [List.mem_singleton] at z
        have : (y : Int) = x := congrArg Prod.snd z
        exact h1.1 (by rw [← Int.ofNat_inj.mp this]; exact hy)⟩)
    (List.range (11 - a)) Q ⟨List.nodup_range, fun x hx => ⟨by rw [List.mem_range] at hx; omega, fun z => hq _ z rfl⟩, by rw [List.length_range]; omega⟩
  refine Eq.trans this ?_
  rw [lp_app]
  rfl
theorem table {k : Nat} (hk : 1 ≤ k) (t : Nat) : evS G (den G Pf k) L2__law_levels [some (false, .int 10), some (false, .int 9), some (true, .list (lvs t)), some (false, .int t), some (true, eQ (Lv t) []), none, none, none] = some (.nx [some (false, .int 10), some (false, .int 9), some (true, .list (lvs t)), some (false, .int t), some (true, eLv (Lv t)), none, none, none]) := by
  unfold L2__law_levels
  rw [for_rng1 (n := 11) (by simp -implicitDefEqProofs -dsimp [e_var, e_int, e_str, e_bl, e_non, e_glb, e_bin, e_cmp, e_chain, e_neg, e_not, e_and, e_or, e_one, e_ite, e_tup, e_lst, e_dic, e_idx, e_dget, e_slc, e_get1, e_get2, e_call, e_bi, e_isa, e_comp, e_comp2, e_dcomp, es_nil, es_cons, eo_no, eo_yes, ec_no, ec_yes, ei_seq, ei_rng1, ei_rng2, s_asg, s_aug, s_setL, s_setD, s_app, s_ext, s_pop, s_ite, s_for_, s_wh, s_ret, s_retN, s_brk, s_cnt, s_pas, ss_nil, ss_cons, sq_nx, sq_rt, sq_bk, sq_ct, rn_nx, rn_rt, evAsg, startG, putNm, giveUp, Dl.at_non, Dl.at_bl, Dl.at_int, Dl.at_str, Dl.at_lst, Dl.at_tup, Dl.at_dic, Dl.mt_non, Dl.mt_bl, Dl.mt_int, Dl.mt_str, Dl.mt_lst, Dl.mt_tup, Dl.mt_dic, fre, esc, escs, esci, getG, asI, asB, dTru, dNot, dNeg, BOp.fo, COp.fo, Bi.fo, onOwn, evApp, evExt, evSetL, evSetD, evAug, AOp.fo, dApp, dExt, dTuple, dList, dInt, dAbs, dLen, dItems, killG, unown, offG, Tg.put, setAll, blkG, wipeG, stepC, stepF, stepD, vAnd, vOr, vChain]) (by omega)]
  have := evFor_lp (t := .nm 5) (body := evSs G (den G Pf k) B2__law_levels) (kl := [5, 6, 7]) (fun i : Nat => PyData.int i) (fun Q : List II => [some (false, .int 10), some (false, .int 9), some (true, .list (lvs t)), some (false, .int t), some (true, eQ (Lv t) Q), none, none, none]) (fun (a : Nat) Q => .nx (Q ++ (List.range (11 - a)).map fun (b : Nat) => ((a : Int), (b : Int)))) (fun xs Q => xs.Nodup ∧ (∀ x ∈ xs, x ≤ 10 ∧ ∀ p ∈ Q, p.1 ≠ ((x : Nat) : Int)) ∧ Q.length + 11 * xs.length ≤ 900)
    (fun x xs Q ⟨h1, h2, h3⟩ => ⟨[some (false, .int 10), some (false, .int 9), some (true, .list (lvs t)), some (false, .int t), some (true, eQ (Lv t) Q), some (false, .int x), none, none], .nx [some (false, .int 10), some (false, .int 9), some (true, .list (lvs t)), some (false, .int t), some (true, eQ (Lv t) (Q ++ (List.range (11 - x)).map fun (b : Nat) => ((x : Int), (b : Int)))), some (false, .int x), none, none], rfl, by
      unfold B2__law_levels
      rw [ss_cons, row hk t x (h2 x (by simp)).1 Q (h2 x (by simp)).2 (by omega)]
      simp -implicitDefEqProofs -dsimp [e_var, e_int, e_str, e_bl, e_non, e_glb, e_bin, e_cmp, e_chain, e_neg, e_not, e_and, e_or, e_one, e_ite, e_tup, e_lst, e_dic, e_idx, e_dget, e_slc, e_get1, e_get2, e_call, e_bi, e_isa, e_comp, e_comp2, e_dcomp, es_nil, es_cons, eo_no, eo_yes, ec_no, ec_yes, ei_seq, ei_rng1, ei_rng2, s_asg, s_aug, s_setL, s_setD, s_app, s_ext, s_pop, s_ite, s_for_, s_wh, s_ret, s_retN, s_brk, s_cnt, s_pas, ss_nil, ss_cons, sq_nx, sq_rt, sq_bk, sq_ct, rn_nx, rn_rt, evAsg, startG, putNm, giveUp, Dl.at_non, Dl.at_bl, Dl.at_int, Dl.at_str, Dl.at_lst, Dl.at_tup, Dl.at_dic, Dl.mt_non, Dl.mt_bl, Dl.mt_int, Dl.mt_str, Dl.mt_lst, Dl.mt_tup, Dl.mt_dic, fre, esc, escs, esci, getG, asI, asB, dTru, dNot, dNeg, BOp.fo, COp.fo, Bi.fo, onOwn, evApp, evExt, evSetL, evSetD, evAug, AOp.fo, dApp, dExt, dTuple, dList, dInt, dAbs, dLen, dItems, killG, unown, offG, Tg.put, setAll, blkG, wipeG, stepC, stepF, stepD, vAnd, vOr, vChain], by simp [Fit, killG], fun s' hs => by
      cases hs
      rw [List.nodup_cons] at h1
      refine ⟨h1.2, fun y hy => ⟨(h2 y (by simp [hy])).1, fun p hp => ?_⟩, by
        rw [List.length_append, List.length_map, List.length_range]
        rw [List.length_cons] at h3
        omega⟩
      rcases List.mem_append.mp hp with z | z
      · exact (h2 y (by simp [hy])).2 p z
      · obtain ⟨b, _, rfl⟩ := List.mem_map.mp z
        intro e
        have e : (x : Int) = y := e
        exact h1.1 (by rw [Int.ofNat_inj.mp e]; exact hy)⟩)
    (List.range 11) [] ⟨List.nodup_range, fun x hx => ⟨by rw [List.mem_range] at hx; omega, fun p hp => by simp at hp⟩, by rw [List.length_range]; simp⟩
  refine Eq.trans this ?_
  rw [lp_flat]
  rfl
theorem eQ_nil (f : II → Bool) : iniD true = eQ f [] := rfl
theorem eLv_atom (f : II → Bool) : isAtom (eLv f) = false := by unfold eLv eDic; exact Eq.trans rfl rfl
theorem lp_cnt {α S : Type} (g : S → S) : ∀ (xs : List α) (s : S), lp (fun _ s => Lp.nx (g s)) xs s = Lp.nx (Nat.repeat g xs.length s)
  | [], s => rfl
  | x :: xs, s => by
    refine Eq.trans (b := lp (fun _ s => Lp.nx (g s)) xs (g s)) rfl ?_
    rw [lp_cnt g xs]
    have : ∀ n (s : S), Nat.repeat g n (g s) = g (Nat.repeat g n s) := fun n s => by
      induction n with
      | zero => rfl
      | succ n ih => exact congrArg g ih
    rw [this]
    rfl
theorem law_levels {k : Nat} (hk : 2 ≤ k) : den G Pf k 11 [.int 10, .int 9] = some (.list (lvs 10)) := by
  rw [den_eq (fd := F__law_levels) (by omega) rfl rfl]
  have L : evS G (den G Pf (k - 1)) L3__law_levels [some (false, .int 10), some (false, .int 9), some (true, .list []), none, none, none, none, none] = some (.nx [some (false, .int 10), some (false, .int 9), some (true, .list (lvs 10)), none, none, none, none, none]) := by
    unfold L3__law_levels
    rw [for_rng1 (n := 10) (by simp -implicitDefEqProofs -dsimp [e_var, e_int, e_str, e_bl, e_non, e_glb, e_bin, e_cmp, e_chain, e_neg, e_not, e_and, e_or, e_one, e_ite, e_tup, e_lst, e_dic, e_idx, e_dget, e_slc, e_get1, e_get2, e_call, e_bi, e_isa, e_comp, e_comp2, e_dcomp, es_nil, es_cons, eo_no, eo_yes, ec_no, ec_yes, ei_seq, ei_rng1, ei_rng2, s_asg, s_aug, s_setL, s_setD, s_app, s_ext, s_pop, s_ite, s_for_, s_wh, s_ret, s_retN, s_brk, s_cnt, s_pas, ss_nil, ss_cons, sq_nx, sq_rt, sq_bk, sq_ct, rn_nx, rn_rt, evAsg, startG, putNm, giveUp, Dl.at_non, Dl.at_bl, Dl.at_int, Dl.at_str, Dl.at_lst, Dl.at_tup, Dl.at_dic, Dl.mt_non, Dl.mt_bl, Dl.mt_int, Dl.mt_str, Dl.mt_lst, Dl.mt_tup, Dl.mt_dic, fre, esc, escs, esci, getG, asI, asB, dTru, dNot, dNeg, BOp.fo, COp.fo, Bi.fo, onOwn, evApp, evExt, evSetL, evSetD, evAug, AOp.fo, dApp, dExt, dTuple, dList, dInt, dAbs, dLen, dItems, killG, unown, offG, Tg.put, setAll, blkG, wipeG, stepC, stepF, stepD, vAnd, vOr, vChain]) (by omega)]
    have := evFor_lp (t := .nm 3) (body := evSs G (den G Pf (k - 1)) B3__law_levels) (kl := [3, 4, 5, 6, 7]) (fun i : Nat => PyData.int i) (fun t : Nat => [some (false, .int 10), some (false, .int 9), some (true, .list (lvs t)), none, none, none, none, none]) (fun (x : Nat) t => .nx (t + 1)) (fun xs t => xs = List.range' t (10 - t) ∧ t ≤ 10)
      (fun x xs t ⟨h1, h2⟩ => by
        have hx : x = t ∧ xs = List.range' (t + 1) (10 - (t + 1)) ∧ t + 1 ≤ 10 := by
          by_cases e : t = 10
          · subst e
            simp at h1
          · have e2 : 10 - t = (10 - (t + 1)) + 1 := by omega
            rw [e2, List.range'_succ] at h1
            injection h1 with h3 h4
            exact ⟨h3, h4, by omega⟩
        obtain ⟨rfl, h3, h4⟩ := hx
        have tb := table (k := k - 1) (by omega) x
        rw [show eQ (Lv x) [] = PyData.dict [mk] from rfl] at tb
        have hz : (lvs x).length < 16777216 := by
          unfold lvs
          rw [List.length_map, List.length_range]
          omega
        refine ⟨[some (false, .int 10), some (false, .int 9), some (true, .list (lvs x)), some (false, .int x), none, none, none, none], .nx [some (false, .int 10), some (false, .int 9), some (true, .list (lvs x ++ [eLv (Lv x)])), some (false, .int x), some (false, eLv (Lv x)), none, none, none], rfl, ?_, by simp [Fit, killG, lvs_succ], fun s' hs => by cases hs; exact ⟨h3, h4⟩⟩
        simp -implicitDefEqProofs -dsimp [B3__law_levels, e_var, e_int, e_str, e_bl, e_non, e_glb, e_bin, e_cmp, e_chain, e_neg, e_not, e_and, e_or, e_one, e_ite, e_tup, e_lst, e_dic, e_idx, e_dget, e_slc, e_get1, e_get2, e_call, e_bi, e_isa, e_comp, e_comp2, e_dcomp, es_nil, es_cons, eo_no, eo_yes, ec_no, ec_yes, ei_seq, ei_rng1, ei_rng2, s_asg, s_aug, s_setL, s_setD, s_app, s_ext, s_pop, s_ite, s_for_, s_wh, s_ret, s_retN, s_brk, s_cnt, s_pas, ss_nil, ss_cons, sq_nx, sq_rt, sq_bk, sq_ct, rn_nx, rn_rt, evAsg, startG, putNm, giveUp, Dl.at_non, Dl.at_bl, Dl.at_int, Dl.at_str, Dl.at_lst, Dl.at_tup, Dl.at_dic, Dl.mt_non, Dl.mt_bl, Dl.mt_int, Dl.mt_str, Dl.mt_lst, Dl.mt_tup, Dl.mt_dic, fre, esc, escs, esci, getG, asI, asB, dTru, dNot, dNeg, BOp.fo, COp.fo, Bi.fo, onOwn, evApp, evExt, evSetL, evSetD, evAug, AOp.fo, dApp, dExt, dTuple, dList, dInt, dAbs, dLen, dItems, killG, unown, offG, Tg.put, setAll, blkG, wipeG, stepC, stepF, stepD, vAnd, vOr, vChain, tb, eLv_atom, hz, iniD, fit])
      (List.range 10) 0 ⟨by rw [List.range_eq_range'], by omega⟩
    refine Eq.trans this ?_
    rw [lp_cnt]
    rfl
  simp -implicitDefEqProofs -dsimp [F__law_levels, b__law_levels, e_var, e_int, e_str, e_bl, e_non, e_glb, e_bin, e_cmp, e_chain, e_neg, e_not, e_and, e_or, e_one, e_ite, e_tup, e_lst, e_dic, e_idx, e_dget, e_slc, e_get1, e_get2, e_call, e_bi, e_isa, e_comp, e_comp2, e_dcomp, es_nil, es_cons, eo_no, eo_yes, ec_no, ec_yes, ei_seq, ei_rng1, ei_rng2, s_asg, s_aug, s_setL, s_setD, s_app, s_ext, s_pop, s_ite, s_for_, s_wh, s_ret, s_retN, s_brk, s_cnt, s_pas, ss_nil, ss_cons, sq_nx, sq_rt, sq_bk, sq_ct, rn_nx, rn_rt, evAsg, startG, putNm, giveUp, Dl.at_non, Dl.at_bl, Dl.at_int, Dl.at_str, Dl.at_lst, Dl.at_tup, Dl.at_dic, Dl.mt_non, Dl.mt_bl, Dl.mt_int, Dl.mt_str, Dl.mt_lst, Dl.mt_tup, Dl.mt_dic, fre, esc, escs, esci, getG, asI, asB, dTru, dNot, dNeg, BOp.fo, COp.fo, Bi.fo, onOwn, evApp, evExt, evSetL, evSetD, evAug, AOp.fo, dApp, dExt, dTuple, dList, dInt, dAbs, dLen, dItems, killG, unown, offG, Tg.put, setAll, blkG, wipeG, stepC, stepF, stepD, vAnd, vOr, vChain, L, fit]
end K47

set_option Elab.async false
set_option linter.all false
set_option maxRecDepth 100000
set_option maxHeartbeats 2000000
namespace K47
open Dl PySem
open L2 (atI ixN)
/-! ### the mathematics -/
theorem findSome_congr {α β : Type} {f g : α → Option β} {xs : List α} (h : ∀ x ∈ xs, f x = g x) : xs.findSome? f = xs.findSome? g := by
  induction xs with
  | nil => rfl
  | cons x xs ih => rw [List.findSome?_cons, List.findSome?_cons, h x (by simp), ih fun y hy => h y (by simp [hy])]
theorem spx_congr {c c' : II → II → Bool} {a b : Nat} (h : ∀ x y : Nat, x ≤ a → y ≤ b → c ((x : Int), (y : Int)) ((a : Int), (b : Int)) = c' ((x : Int), (y : Int)) ((a : Int), (b : Int))) : spx c a b = spx c' a b := by
  unfold spx
  refine findSome_congr fun x hx => ?_
  unfold spy
  refine findSome_congr fun y hy => ?_
  rw [List.mem_range] at hx hy
  rw [h x y (by omega) (by omega)]
theorem findSome_isSome {α β : Type} (f : α → Option β) (xs : List α) : (xs.findSome? f).isSome = xs.any fun x => (f x).isSome := by
  induction xs with
  | nil => rfl
  | cons x xs ih =>
    rw [List.findSome?_cons, List.any_cons]
    cases h : f x with
    | none => simpa using ih
    | some b => rfl
theorem spx_some {c : II → II → Bool} {a b : Nat} : (spx c a b).isSome = true ↔ ∃ x y : Nat, x ≤ a ∧ y ≤ b ∧ c ((x : Int), (y : Int)) ((a : Int), (b : Int)) = true := by
  unfold spx spy
  rw [findSome_isSome, List.any_eq_true]
  constructor
  · rintro ⟨x, hx, h⟩
    rw [findSome_isSome, List.any_eq_true] at h
    obtain ⟨y, hy, h⟩ := h
    rw [List.mem_range] at hx hy
    refine ⟨x, y, by omega, by omega, ?_⟩
    split at h
    · assumption
    · cases h
  · rintro ⟨x, y, hx, hy, h⟩
    refine ⟨x, List.mem_range.mpr (by omega), ?_⟩
    rw [findSome_isSome, List.any_eq_true]
    exact ⟨y, List.mem_range.mpr (by omega), by rw [if_pos h]; rfl⟩
/-- a split that is found -/
theorem spx_get {c : II → II → Bool} {a b : Nat} {p : II} (h : spx c a b = some p) : ∃ x y : Nat, x ≤ a ∧ y ≤ b ∧ c ((x : Int), (y : Int)) ((a : Int), (b : Int)) = true ∧ p = ((x : Int), (y : Int)) := by
  unfold spx at h
  obtain ⟨x, hx, h⟩ := List.exists_of_findSome?_eq_some h
  unfold spy at h
  obtain ⟨y, hy, h⟩ := List.exists_of_findSome?_eq_some h
  rw [List.mem_range] at hx hy
  split at h
  · cases h
    exact ⟨x, y, by omega, by omega, by assumption, rfl⟩
  · cases h
theorem Lv_succ (t a b : Nat) : Lv (t + 1) ((a : Int), (b : Int)) = (decide ((a : Int) + b ≤ 1) || (spx (cL (Lv t)) a b).isSome) := rfl
theorem Kst_filter (n : Nat) : ∀ t, Kst n t = (P n).filter (Lv t) := fun t => by
  induction t with
  | zero =>
    show (P n).filter _ = _
    refine List.filter_congr fun p hp => ?_
    have : spx (cK []) p.1.toNat p.2.toNat = none := by
      cases h : spx (cK []) p.1.toNat p.2.toNat with
      | none => rfl
      | some q =>
        have : (spx (cK []) p.1.toNat p.2.toNat).isSome = true := by rw [h]; rfl
        obtain ⟨x, y, _, _, h⟩ := spx_some.mp this
        simp [cK, hasK] at h
    rw [this]
    simp [Lv]
  | succ t ih =>
    show (P n).filter _ = _
    refine List.filter_congr fun p hp => ?_
    obtain ⟨i, j⟩ := p
    rw [mem_P] at hp
    obtain ⟨a, rfl⟩ := Int.eq_ofNat_of_zero_le hp.1
    obtain ⟨b, rfl⟩ := Int.eq_ofNat_of_zero_le hp.2.1
    rw [Lv_succ]
    show (decide ((a : Int) + b ≤ 1) || (spx (cK (Kst n t)) a b).isSome) = _
    rw [spx_congr (c' := cL (Lv t)) fun x y hx hy => ?_]
    rw [ih]
    unfold cK cL hasK
    have e1 : (y : Int) + a - x = a - x + y := by omega
    have e2 : (b : Int) - y + x = x + b - y := by omega
    simp only
    rw [e1, e2]
    have h1 : ((x : Int), (a : Int) - x + y) ∈ P n := (mem_P n _ _).mpr (by omega)
    have h2 : ((a : Int) - x, (x : Int) + b - y) ∈ P n := (mem_P n _ _).mpr (by omega)
    simp [List.mem_filter, h1, h2]
theorem hasK_st (n t a b : Nat) (h : a + b ≤ n) : hasK (Kst n t) ((a : Int), (b : Int)) = Lv t ((a : Int), (b : Int)) := by
  unfold hasK
  rw [Kst_filter]
  have : ((a : Int), (b : Int)) ∈ P n := (mem_P n _ _).mpr (by omega)
  simp [List.mem_filter, this]
theorem sp_st (n t a b : Nat) (h : a + b ≤ n) : spx (cK (Kst n t)) a b = spx (cL (Lv t)) a b := by
  refine spx_congr fun x y hx hy => ?_
  unfold cK cL
  simp only
  have e1 : (y : Int) + a - x = ((a - x + y : Nat) : Int) := by omega
  have e2 : (b : Int) - y + x = ((x + b - y : Nat) : Int) := by omega
  have e3 : (a : Int) - x = ((a - x : Nat) : Int) := by omega
  have e4 : (a : Int) - x + y = ((a - x + y : Nat) : Int) := by omega
  have e5 : (x : Int) + b - y = ((x + b - y : Nat) : Int) := by omega
  rw [e1, e2, e4, e5, e3, hasK_st n t x (a - x + y) (by omega), hasK_st n t (a - x) (x + b - y) (by omega)]
theorem Lv_mono (t : Nat) : ∀ a b : Nat, Lv t ((a : Int), (b : Int)) = true → Lv (t + 1) ((a : Int), (b : Int)) = true := by
  induction t with
  | zero =>
    intro a b h
    rw [Lv_succ]
    have h : decide ((a : Int) + b ≤ 1) = true := h
    rw [h]
    rfl
  | succ t ih =>
    intro a b h
    rw [Lv_succ] at h ⊢
    rw [Bool.or_eq_true] at h ⊢
    rcases h with h | h
    · exact .inl h
    · refine .inr ?_
      obtain ⟨x, y, hx, hy, h⟩ := spx_some.mp h
      refine spx_some.mpr ⟨x, y, hx, hy, ?_⟩
      unfold cL at h ⊢
      simp only [Bool.and_eq_true] at h ⊢
      have e3 : (a : Int) - x = ((a - x : Nat) : Int) := by omega
      have e4 : (a : Int) - x + y = ((a - x + y : Nat) : Int) := by omega
      have e5 : (x : Int) + b - y = ((x + b - y : Nat) : Int) := by omega
      rw [e4, e5, e3] at h ⊢
      exact ⟨ih _ _ h.1, ih _ _ h.2⟩
theorem Lv_le {s t : Nat} (h : s ≤ t) {a b : Nat} (hL : Lv s ((a : Int), (b : Int)) = true) : Lv t ((a : Int), (b : Int)) = true := by
  induction h with
  | refl => exact hL
  | step _ ih => exact Lv_mono _ _ _ ih
theorem volume (t : Nat) : ∀ a b : Nat, Lv t ((a : Int), (b : Int)) = true → a * (t + 1) + b ≤ 2 ^ t := by
  induction t with
  | zero =>
    intro a b h
    have h : (a : Int) + b ≤ 1 := of_decide_eq_true h
    simp
    omega
  | succ t ih =>
    intro a b h
    rw [Lv_succ, Bool.or_eq_true] at h
    rcases h with h | h
    · have h : (a : Int) + b ≤ 1 := of_decide_eq_true h
      have h3 : t + 1 + 1 ≤ 2 ^ (t + 1) := Nat.lt_two_pow_self
      have : a = 0 ∧ b ≤ 1 ∨ a = 1 ∧ b = 0 := by omega
      rcases this with ⟨rfl, hb⟩ | ⟨rfl, rfl⟩
      · have : 0 < 2 ^ (t + 1) := Nat.pos_of_ne_zero (by simp)
        omega
      · omega
    · obtain ⟨x, y, hx, hy, h⟩ := spx_some.mp h
      unfold cL at h
      simp only [Bool.and_eq_true] at h
      have e3 : (a : Int) - x = ((a - x : Nat) : Int) := by omega
      have e4 : (a : Int) - x + y = ((a - x + y : Nat) : Int) := by omega
      have e5 : (x : Int) + b - y = ((x + b - y : Nat) : Int) := by omega
      rw [e4, e5, e3] at h
      have h1 := ih _ _ h.1
      have h2 := ih _ _ h.2
      obtain ⟨z, rfl⟩ : ∃ z, a = x + z := ⟨a - x, by omega⟩
      have e6 : x + z - x = z := by omega
      rw [e6] at h1 h2
      have e7 : (x + z) * (t + 1 + 1) = x * (t + 1) + z * (t + 1) + (x + z) := by
        rw [Nat.mul_succ, Nat.add_mul]
      rw [e7, Nat.pow_succ]
      omega
def tabL : List (List (Nat × Nat × Nat)) := [[(0, 0, 0), (0, 0, 0), (1, 0, 1), (2, 0, 1), (2, 0, 2), (3, 0, 1), (3, 0, 2), (3, 0, 3), (3, 0, 4), (4, 0, 1), (4, 0, 2)], [(0, 0, 0), (2, 0, 1), (3, 0, 1), (3, 0, 2), (3, 0, 3), (4, 0, 1), (4, 0, 2), (4, 0, 3), (4, 0, 4), (4, 0, 5)], [(3, 1, 0), (4, 0, 1), (4, 0, 2), (4, 0, 3), (4, 0, 4), (4, 0, 5), (4, 0, 6), (5, 0, 1), (5, 0, 2)], [(5, 1, 0), (5, 1, 0), (5, 1, 0), (5, 1, 0), (5, 1, 0), (5, 1, 0), (5, 1, 1), (5, 1, 2)], [(5, 2, 0), (5, 2, 0), (5, 2, 0), (5, 2, 0), (5, 2, 0), (5, 2, 1), (5, 2, 2)], [(6, 1, 0), (6, 1, 0), (6, 1, 0), (6, 1, 0), (6, 1, 0), (6, 1, 0)], [(6, 2, 0), (6, 2, 0), (6, 2, 0), (6, 2, 0), (6, 2, 0)], [(6, 3, 0), (6, 3, 0), (6, 3, 0), (6, 3, 0)], [(6, 4, 0), (6, 4, 0), (6, 4, 0)], [(7, 1, 0), (7, 1, 0)], [(7, 2, 0)]]
def tab (a b : Nat) : Nat × Nat × Nat := (tabL.getD a []).getD b (0, 0, 0)
theorem tab_ok : ∀ a ≤ 10, ∀ b ≤ 10 - a, a + b ≤ 1 ∨ ((tab a b).2.1 ≤ a ∧ (tab a b).2.2 ≤ b ∧ (tab (tab a b).2.1 (a - (tab a b).2.1 + (tab a b).2.2)).1 + 1 ≤ (tab a b).1 ∧ (tab (a - (tab a b).2.1) ((tab a b).2.1 + b - (tab a b).2.2)).1 + 1 ≤ (tab a b).1) := by decide +kernel
theorem tab_le : ∀ a ≤ 10, ∀ b ≤ 10 - a, (tab a b).1 ≤ 9 := by decide +kernel
theorem tab_Lv (t : Nat) : ∀ a b : Nat, a + b ≤ 10 → (tab a b).1 ≤ t → Lv t ((a : Int), (b : Int)) = true := by
  induction t with
  | zero =>
    intro a b h ht
    rcases tab_ok a (by omega) b (by omega) with h1 | h1
    · exact decide_eq_true (by omega)
    · omega
  | succ t ih =>
    intro a b h ht
    rw [Lv_succ, Bool.or_eq_true]
    rcases tab_ok a (by omega) b (by omega) with h1 | ⟨h1, h2, h3, h4⟩
    · exact .inl (decide_eq_true (by omega))
    · refine .inr (spx_some.mpr ⟨(tab a b).2.1, (tab a b).2.2, h1, h2, ?_⟩)
      unfold cL
      simp only [Bool.and_eq_true]
      generalize (tab a b).2.1 = x at *
      generalize (tab a b).2.2 = y at *
      have e3 : (a : Int) - x = ((a - x : Nat) : Int) := by omega
      have e4 : (a : Int) - x + y = ((a - x + y : Nat) : Int) := by omega
      have e5 : (x : Int) + b - y = ((x + b - y : Nat) : Int) := by omega
      rw [e4, e5, e3]
      exact ⟨ih _ _ (by omega) (by omega), ih _ _ (by omega) (by omega)⟩
theorem Lv_nine (a b : Nat) (h : a + b ≤ 10) : Lv 9 ((a : Int), (b : Int)) = true := tab_Lv 9 a b h (tab_le a (by omega) b (by omega))
/-- the least number of questions -/
theorem few_ex (a b : Nat) (h : a + b ≤ 10) : ∃ m, m ≤ 9 ∧ Lv m ((a : Int), (b : Int)) = true ∧ ∀ j, j < m → Lv j ((a : Int), (b : Int)) = false := by
  have key : ∀ n, (∃ m, m ≤ n ∧ Lv m ((a : Int), (b : Int)) = true ∧ ∀ j, j < m → Lv j ((a : Int), (b : Int)) = false) ∨ ∀ j, j ≤ n → Lv j ((a : Int), (b : Int)) = false := fun n => by
    induction n with
    | zero =>
      cases h : Lv 0 ((a : Int), (b : Int)) with
      | true => exact .inl ⟨0, Nat.le_refl _, h, fun j hj => by omega⟩
      | false =>
        refine .inr fun j hj => ?_
        have : j = 0 := by omega
        rw [this]
        exact h
    | succ n ih =>
      rcases ih with ⟨m, h1, h2, h3⟩ | ih
      · exact .inl ⟨m, by omega, h2, h3⟩
      · cases h : Lv (n + 1) ((a : Int), (b : Int)) with
        | true => exact .inl ⟨n + 1, Nat.le_refl _, h, fun j hj => ih j (by omega)⟩
        | false =>
          refine .inr fun j hj => ?_
          by_cases e : j = n + 1
          · rw [e]
            exact h
          · exact ih j (by omega)
  rcases key 9 with h1 | h1
  · exact h1
  · have := h1 9 (Nat.le_refl _)
    rw [Lv_nine a b h] at this
    cases this
end K47

set_option Elab.async false
set_option linter.all false
set_option maxRecDepth 100000
set_option maxHeartbeats 2000000
namespace K47
open Dl PySem
open L2 (atI ixN)
theorem alike_ints (ns : List Int) : alikeOk (ns.map .int) = true := by
  unfold alikeOk
  have h1 : ∀ ns : List Int, PyData.plainAll (ns.map .int) = true := fun ns => by
    induction ns with
    | nil => rfl
    | cons x xs ih => simp only [List.map_cons, PyData.plainAll, PyData.plain, ih, Bool.and_self]
  have h2 : ∀ ns : List Int, PyData.depthAll (ns.map .int) = 0 := fun ns => by
    induction ns with
    | nil => rfl
    | cons x xs ih => simp only [List.map_cons, PyData.depthAll, PyData.depth, ih, Nat.max_self]
  rw [h1, h2]
  simp [List.all_map, PySem.W.alike, notNone]
theorem dMin_ints (x : Int) (xs : List Int) : dMin [.list ((x :: xs).map .int)] = some (.int (xs.foldl min x)) := by
  have h := alike_ints (x :: xs)
  rw [List.map_cons] at h ⊢
  refine Eq.trans (b := if alikeOk (.int x :: xs.map .int) = true then some (PySem.W.minD (.int x) (xs.map .int)) else none) rfl ?_
  rw [if_pos h, PySem.W.minD_ints]
theorem foldl_min (x : Int) : ∀ xs : List Int, (∀ y ∈ xs, x ≤ y) → xs.foldl min x = x
  | [], _ => rfl
  | y :: xs, h => by
    rw [List.foldl_cons, show min x y = x from Int.min_eq_left (h y (by simp))]
    exact foldl_min x xs fun z hz => h z (by simp [hz])
theorem filt_least (p : Nat → Bool) (n m : Nat) (hm : m < n) (h1 : p m = true) (h2 : ∀ j, j < m → p j = false) : ∃ r, (List.range n).filter p = m :: r ∧ ∀ y ∈ r, m ≤ y := by
  have pw : ((List.range n).filter p).Pairwise (· < ·) := List.Pairwise.filter _ List.pairwise_lt_range
  have mem : m ∈ (List.range n).filter p := List.mem_filter.mpr ⟨List.mem_range.mpr hm, h1⟩
  have all : ∀ y ∈ (List.range n).filter p, m ≤ y := fun y hy => by
    have hp := (List.mem_filter.mp hy).2
    by_cases h : y < m
    · rw [h2 y h] at hp
      cases hp
    · omega
  cases e : (List.range n).filter p with
  | nil =>
    rw [e] at mem
    cases mem
  | cons x r =>
    rw [e] at mem all pw
    rw [List.pairwise_cons] at pw
    have hx : m ≤ x := all x (by simp)
    have : m = x := by
      rcases List.mem_cons.mp mem with h | h
      · exact h
      · have := pw.1 m h
        omega
    subst this
    exact ⟨r, rfl, fun y hy => all y (by simp [hy])⟩
theorem lvs_at (t : Nat) (h : t < 10) : atI (lvs 10) (t : Int) = some (eLv (Lv t)) := by
  have hl : t < (lvs 10).length := by
    unfold lvs
    rw [List.length_map, List.length_range]
    exact h
  rw [atI_nat _ _ hl]
  simp [lvs]
theorem lvs_len : (lvs 10).length = 10 := by
  unfold lvs
  rw [List.length_map, List.length_range]
theorem law_fewest {k : Nat} (hk : 1 ≤ k) (a b m : Nat) (h : a + b ≤ 10) (hm : m ≤ 9) (h1 : Lv m ((a : Int), (b : Int)) = true) (h2 : ∀ j, j < m → Lv j ((a : Int), (b : Int)) = false) : den G Pf k 14 [.int a, .int b, .list (lvs 10)] = some (.int m) := by
  rw [den_eq (fd := F__law_fewest) hk rfl rfl]
  have L : ev G (den G Pf (k - 1)) C1__law_fewest [some (false, .int a), some (false, .int b), some (false, .list (lvs 10)), none] = some (.list (((List.range 10).filter fun t => Lv t ((a : Int), (b : Int))).map fun (t : Nat) => PyData.int t)) := by
    unfold C1__law_fewest
    refine ev_comp (evi_rng1 (n := 10) (by simp -implicitDefEqProofs -dsimp [e_var, e_int, e_str, e_bl, e_non, e_glb, e_bin, e_cmp, e_chain, e_neg, e_not, e_and, e_or, e_one, e_ite, e_tup, e_lst, e_dic, e_idx, e_dget, e_slc, e_get1, e_get2, e_call, e_bi, e_isa, e_comp, e_comp2, e_dcomp, es_nil, es_cons, eo_no, eo_yes, ec_no, ec_yes, ei_seq, ei_rng1, ei_rng2, s_asg, s_aug, s_setL, s_setD, s_app, s_ext, s_pop, s_ite, s_for_, s_wh, s_ret, s_retN, s_brk, s_cnt, s_pas, ss_nil, ss_cons, sq_nx, sq_rt, sq_bk, sq_ct, rn_nx, rn_rt, evAsg, startG, putNm, giveUp, Dl.at_non, Dl.at_bl, Dl.at_int, Dl.at_str, Dl.at_lst, Dl.at_tup, Dl.at_dic, Dl.mt_non, Dl.mt_bl, Dl.mt_int, Dl.mt_str, Dl.mt_lst, Dl.mt_tup, Dl.mt_dic, fre, esc, escs, esci, getG, asI, asB, dTru, dNot, dNeg, BOp.fo, COp.fo, Bi.fo, onOwn, evApp, evExt, evSetL, evSetD, evAug, AOp.fo, dApp, dExt, dTuple, dList, dInt, dAbs, dLen, dItems, killG, unown, offG, Tg.put, setAll, blkG, wipeG, stepC, stepF, stepD, vAnd, vOr, vChain, lvs_len]) (by omega)) ?_
    refine compL_fm (fun i : Nat => PyData.int i) (fun t => Lv t ((a : Int), (b : Int))) _ _ fun t ht => ?_
    rw [List.mem_range] at ht
    have g := get_Lv (Lv t) a b ((mem_P 10 _ _).mpr (by omega))
    have il : dIdx (.list (lvs 10)) (.int t) = some (eLv (Lv t)) := lvs_at t ht
    cases e : Lv t ((a : Int), (b : Int)) <;> (rw [e] at g; simp -implicitDefEqProofs -dsimp [e_var, e_int, e_str, e_bl, e_non, e_glb, e_bin, e_cmp, e_chain, e_neg, e_not, e_and, e_or, e_one, e_ite, e_tup, e_lst, e_dic, e_idx, e_dget, e_slc, e_get1, e_get2, e_call, e_bi, e_isa, e_comp, e_comp2, e_dcomp, es_nil, es_cons, eo_no, eo_yes, ec_no, ec_yes, ei_seq, ei_rng1, ei_rng2, s_asg, s_aug, s_setL, s_setD, s_app, s_ext, s_pop, s_ite, s_for_, s_wh, s_ret, s_retN, s_brk, s_cnt, s_pas, ss_nil, ss_cons, sq_nx, sq_rt, sq_bk, sq_ct, rn_nx, rn_rt, evAsg, startG, putNm, giveUp, Dl.at_non, Dl.at_bl, Dl.at_int, Dl.at_str, Dl.at_lst, Dl.at_tup, Dl.at_dic, Dl.mt_non, Dl.mt_bl, Dl.mt_int, Dl.mt_str, Dl.mt_lst, Dl.mt_tup, Dl.mt_dic, fre, esc, escs, esci, getG, asI, asB, dTru, dNot, dNeg, BOp.fo, COp.fo, Bi.fo, onOwn, evApp, evExt, evSetL, evSetD, evAug, AOp.fo, dApp, dExt, dTuple, dList, dInt, dAbs, dLen, dItems, killG, unown, offG, Tg.put, setAll, blkG, wipeG, stepC, stepF, stepD, vAnd, vOr, vChain, il, g, fit])
  obtain ⟨r, e1, e2⟩ := filt_least (fun t => Lv t ((a : Int), (b : Int))) 10 m (by omega) h1 h2
  rw [e1] at L
  have dm := dMin_ints m (r.map fun (t : Nat) => (t : Int))
  rw [foldl_min _ _ (fun y hy => by
    obtain ⟨z, hz, rfl⟩ := List.mem_map.mp hy
    have := e2 z hz
    omega)] at dm
  rw [List.map_cons, List.map_map] at dm
  have dm' : dMin [.list (PyData.int m :: r.map fun (t : Nat) => PyData.int t)] = some (.int m) := dm
  simp -implicitDefEqProofs -dsimp [F__law_fewest, b__law_fewest, e_var, e_int, e_str, e_bl, e_non, e_glb, e_bin, e_cmp, e_chain, e_neg, e_not, e_and, e_or, e_one, e_ite, e_tup, e_lst, e_dic, e_idx, e_dget, e_slc, e_get1, e_get2, e_call, e_bi, e_isa, e_comp, e_comp2, e_dcomp, es_nil, es_cons, eo_no, eo_yes, ec_no, ec_yes, ei_seq, ei_rng1, ei_rng2, s_asg, s_aug, s_setL, s_setD, s_app, s_ext, s_pop, s_ite, s_for_, s_wh, s_ret, s_retN, s_brk, s_cnt, s_pas, ss_nil, ss_cons, sq_nx, sq_rt, sq_bk, sq_ct, rn_nx, rn_rt, evAsg, startG, putNm, giveUp, Dl.at_non, Dl.at_bl, Dl.at_int, Dl.at_str, Dl.at_lst, Dl.at_tup, Dl.at_dic, Dl.mt_non, Dl.mt_bl, Dl.mt_int, Dl.mt_str, Dl.mt_lst, Dl.mt_tup, Dl.mt_dic, fre, esc, escs, esci, getG, asI, asB, dTru, dNot, dNeg, BOp.fo, COp.fo, Bi.fo, onOwn, evApp, evExt, evSetL, evSetD, evAug, AOp.fo, dApp, dExt, dTuple, dList, dInt, dAbs, dLen, dItems, killG, unown, offG, Tg.put, setAll, blkG, wipeG, stepC, stepF, stepD, vAnd, vOr, vChain, L, dm']
theorem eO_ok (o : Option II) : okIs (eO o) = true ∧ (eO o).depth ≤ 1 := by
  cases o with
  | none => exact ⟨rfl, by show PyData.depth .none ≤ 1; simp [PyData.depth]⟩
  | some p => exact ⟨rfl, by show PyData.depth (.tuple [.int p.1, .int p.2]) ≤ 1; simp [PyData.depth, PyData.depthAll]⟩
/-- the numbers of a state keep the law -/
theorem law_numbers {k : Nat} (hk : 6 ≤ k) (a b : Nat) (h : a + b ≤ 10) : den G Pf k 15 [.int a, .int b, .list (lvs 10)] = some (.bool true) := by
  obtain ⟨m, hm, h1, h2⟩ := few_ex a b h
  have q1 := law_fewest (k := k - 1) (by omega) a b m h hm h1 h2
  have kh : hasK (Kst (a + b) m) ((a : Int), (b : Int)) = true := by rw [hasK_st _ _ _ _ (Nat.le_refl _)]; exact h1
  have kl : ∀ j, j < m → hasK (Kst (a + b) j) ((a : Int), (b : Int)) = false := fun j hj => by rw [hasK_st _ _ _ _ (Nat.le_refl _)]; exact h2 j hj
  have q2 := fewest_asked (k := k - 1) (by omega) a b m h kh kl (by omega)
  have q3 := law_is (k - 1) (.int m) rfl (by simp [PyData.depth]; omega)
  have q4 := weighs (k := k - 1) (by omega) a b m (by omega) (by omega)
  have vol := volume m a b h1
  have vol' : (a : Int) * ((m : Int) + 1) + b ≤ 2 ^ m := by
    have : ((a * (m + 1) + b : Nat) : Int) ≤ ((2 ^ m : Nat) : Int) := by omega
    simpa using this
  have vd : decide ((2 : Int) ^ m ≥ (a : Int) * ((m : Int) + 1) + b) = true := decide_eq_true vol'
  rw [vd] at q4
  have cf : ∀ q : Nat, q ≤ 11 → den G Pf (k - 1) 4 [.int a, .int b, .int q] = some (.bool (decide ((q : Int) ≥ m))) := fun q hq => by
    rw [can_find (by omega) a b q h (by omega), hasK_st _ _ _ _ (Nat.le_refl _)]
    by_cases e : m ≤ q
    · rw [Lv_le e h1, decide_eq_true (by omega : (q : Int) ≥ m)]
    · rw [h2 q (by omega), decide_eq_false (by omega : ¬ (q : Int) ≥ m)]
  have ib : ∀ b : Bool, den G Pf (k - 1) 10 [.bool b, .bool b] = some (.bool true) := fun b => law_is (k - 1) (.bool b) rfl (by simp [PyData.depth]; omega)
  obtain ⟨sp, q5, q6, q7⟩ : ∃ sp : D, den G Pf (k - 1) 6 [.int a, .int b] = some sp ∧ (if (a : Int) + b > 1 then den G Pf (k - 1) 12 [.int a, .int b, eLv (Lv (m - 1))] = some sp ∧ 0 < m else sp = .none) ∧ den G Pf (k - 1) 10 [sp, sp] = some (.bool true) := by
    by_cases e : a + b ≤ 1
    · refine ⟨.none, told_small (by omega) a b e, ?_, law_is (k - 1) .none rfl (by simp [PyData.depth]; omega)⟩
      rw [if_neg (by omega)]
    · have m0 : 0 < m := by
        rcases Nat.eq_zero_or_pos m with z | z
        · subst z
          have : (a : Int) + b ≤ 1 := of_decide_eq_true h1
          omega
        · exact z
      refine ⟨_, told_split (by omega) a b m h e m0 kh kl (by omega), ?_, law_is (k - 1) _ (eO_ok _).1 (by have := (eO_ok (spx (cK (Kst (a + b) (m - 1))) a b)).2; omega)⟩
      rw [if_pos (by omega), sp_st _ _ _ _ (Nat.le_refl _)]
      exact ⟨law_split (by omega) a b h _, m0⟩
  rw [den_eq (fd := F__law_numbers) (by omega) rfl rfl]
  have L : ∀ Γ4 : Option (Bool × D), evS G (den G Pf (k - 1)) L1__law_numbers [some (false, .int a), some (false, .int b), some (false, .list (lvs 10)), some (false, .int m), Γ4, none] = some (.nx [some (false, .int a), some (false, .int b), some (false, .list (lvs 10)), some (false, .int m), Γ4, none]) := by
    intro Γ4
    unfold L1__law_numbers
    rw [for_seq (d := .tuple ([0, (m : Int) - 1, (m : Int), (m : Int) + 1].map .int)) (ds := [0, (m : Int) - 1, (m : Int), (m : Int) + 1].map .int) (by simp -implicitDefEqProofs -dsimp [e_var, e_int, e_str, e_bl, e_non, e_glb, e_bin, e_cmp, e_chain, e_neg, e_not, e_and, e_or, e_one, e_ite, e_tup, e_lst, e_dic, e_idx, e_dget, e_slc, e_get1, e_get2, e_call, e_bi, e_isa, e_comp, e_comp2, e_dcomp, es_nil, es_cons, eo_no, eo_yes, ec_no, ec_yes, ei_seq, ei_rng1, ei_rng2, s_asg, s_aug, s_setL, s_setD, s_app, s_ext, s_pop, s_ite, s_for_, s_wh, s_ret, s_retN, s_brk, s_cnt, s_pas, ss_nil, ss_cons, sq_nx, sq_rt, sq_bk, sq_ct, rn_nx, rn_rt, evAsg, startG, putNm, giveUp, Dl.at_non, Dl.at_bl, Dl.at_int, Dl.at_str, Dl.at_lst, Dl.at_tup, Dl.at_dic, Dl.mt_non, Dl.mt_bl, Dl.mt_int, Dl.mt_str, Dl.mt_lst, Dl.mt_tup, Dl.mt_dic, fre, esc, escs, esci, getG, asI, asB, dTru, dNot, dNeg, BOp.fo, COp.fo, Bi.fo, onOwn, evApp, evExt, evSetL, evSetD, evAug, AOp.fo, dApp, dExt, dTuple, dList, dInt, dAbs, dLen, dItems, killG, unown, offG, Tg.put, setAll, blkG, wipeG, stepC, stepF, stepD, vAnd, vOr, vChain, fit]) rfl]
    have := evFor_lk (β := D) (t := .nm 5) (body := evSs G (den G Pf (k - 1)) B1__law_numbers) (kl := [5]) (Γ := [some (false, .int a), some (false, .int b), some (false, .list (lvs 10)), some (false, .int m), Γ4, none]) (fun i : Int => PyData.int i) (fun _ => none) id (fun q => [some (false, .int a), some (false, .int b), some (false, .list (lvs 10)), some (false, .int m), Γ4, some (false, .int q)]) (fun q => [some (false, .int a), some (false, .int b), some (false, .list (lvs 10)), some (false, .int m), Γ4, some (false, .int q)]) [0, (m : Int) - 1, (m : Int), (m : Int) + 1] (fun q hq => ⟨rfl, by
      rw [lkF_none]
      by_cases e : q ≥ 0
      · obtain ⟨n, rfl⟩ := Int.eq_ofNat_of_zero_le e
        have hn : n ≤ 11 := by
          simp at hq
          omega
        simp -implicitDefEqProofs -dsimp [e_var, e_int, e_str, e_bl, e_non, e_glb, e_bin, e_cmp, e_chain, e_neg, e_not, e_and, e_or, e_one, e_ite, e_tup, e_lst, e_dic, e_idx, e_dget, e_slc, e_get1, e_get2, e_call, e_bi, e_isa, e_comp, e_comp2, e_dcomp, es_nil, es_cons, eo_no, eo_yes, ec_no, ec_yes, ei_seq, ei_rng1, ei_rng2, s_asg, s_aug, s_setL, s_setD, s_app, s_ext, s_pop, s_ite, s_for_, s_wh, s_ret, s_retN, s_brk, s_cnt, s_pas, ss_nil, ss_cons, sq_nx, sq_rt, sq_bk, sq_ct, rn_nx, rn_rt, evAsg, startG, putNm, giveUp, Dl.at_non, Dl.at_bl, Dl.at_int, Dl.at_str, Dl.at_lst, Dl.at_tup, Dl.at_dic, Dl.mt_non, Dl.mt_bl, Dl.mt_int, Dl.mt_str, Dl.mt_lst, Dl.mt_tup, Dl.mt_dic, fre, esc, escs, esci, getG, asI, asB, dTru, dNot, dNeg, BOp.fo, COp.fo, Bi.fo, onOwn, evApp, evExt, evSetL, evSetD, evAug, AOp.fo, dApp, dExt, dTuple, dList, dInt, dAbs, dLen, dItems, killG, unown, offG, Tg.put, setAll, blkG, wipeG, stepC, stepF, stepD, vAnd, vOr, vChain, B1__law_numbers, cf n hn, ib]
      · simp -implicitDefEqProofs -dsimp [e_var, e_int, e_str, e_bl, e_non, e_glb, e_bin, e_cmp, e_chain, e_neg, e_not, e_and, e_or, e_one, e_ite, e_tup, e_lst, e_dic, e_idx, e_dget, e_slc, e_get1, e_get2, e_call, e_bi, e_isa, e_comp, e_comp2, e_dcomp, es_nil, es_cons, eo_no, eo_yes, ec_no, ec_yes, ei_seq, ei_rng1, ei_rng2, s_asg, s_aug, s_setL, s_setD, s_app, s_ext, s_pop, s_ite, s_for_, s_wh, s_ret, s_retN, s_brk, s_cnt, s_pas, ss_nil, ss_cons, sq_nx, sq_rt, sq_bk, sq_ct, rn_nx, rn_rt, evAsg, startG, putNm, giveUp, Dl.at_non, Dl.at_bl, Dl.at_int, Dl.at_str, Dl.at_lst, Dl.at_tup, Dl.at_dic, Dl.mt_non, Dl.mt_bl, Dl.mt_int, Dl.mt_str, Dl.mt_lst, Dl.mt_tup, Dl.mt_dic, fre, esc, escs, esci, getG, asI, asB, dTru, dNot, dNeg, BOp.fo, COp.fo, Bi.fo, onOwn, evApp, evExt, evSetL, evSetD, evAug, AOp.fo, dApp, dExt, dTuple, dList, dInt, dAbs, dLen, dItems, killG, unown, offG, Tg.put, setAll, blkG, wipeG, stepC, stepF, stepD, vAnd, vOr, vChain, B1__law_numbers, e], by simp -implicitDefEqProofs -dsimp [e_var, e_int, e_str, e_bl, e_non, e_glb, e_bin, e_cmp, e_chain, e_neg, e_not, e_and, e_or, e_one, e_ite, e_tup, e_lst, e_dic, e_idx, e_dget, e_slc, e_get1, e_get2, e_call, e_bi, e_isa, e_comp, e_comp2, e_dcomp, es_nil, es_cons, eo_no, eo_yes, ec_no, ec_yes, ei_seq, ei_rng1, ei_rng2, s_asg, s_aug, s_setL, s_setD, s_app, s_ext, s_pop, s_ite, s_for_, s_wh, s_ret, s_retN, s_brk, s_cnt, s_pas, ss_nil, ss_cons, sq_nx, sq_rt, sq_bk, sq_ct, rn_nx, rn_rt, evAsg, startG, putNm, giveUp, Dl.at_non, Dl.at_bl, Dl.at_int, Dl.at_str, Dl.at_lst, Dl.at_tup, Dl.at_dic, Dl.mt_non, Dl.mt_bl, Dl.mt_int, Dl.mt_str, Dl.mt_lst, Dl.mt_tup, Dl.mt_dic, fre, esc, escs, esci, getG, asI, asB, dTru, dNot, dNeg, BOp.fo, COp.fo, Bi.fo, onOwn, evApp, evExt, evSetL, evSetD, evAug, AOp.fo, dApp, dExt, dTuple, dList, dInt, dAbs, dLen, dItems, killG, unown, offG, Tg.put, setAll, blkG, wipeG, stepC, stepF, stepD, vAnd, vOr, vChain]⟩)
    refine Eq.trans ?_ (Eq.trans this ?_)
    · congr 1
    · simp [lkF]
  have il : ∀ (h0 : 0 < m), dIdx (.list (lvs 10)) (.int ((m : Int) - 1)) = some (eLv (Lv (m - 1))) := fun h0 => by
    have := lvs_at (m - 1) (by omega)
    have e : ((m - 1 : Nat) : Int) = (m : Int) - 1 := by omega
    rw [e] at this
    exact this
  by_cases e : (a : Int) + b > 1
  · rw [if_pos e] at q6
    simp -implicitDefEqProofs -dsimp [F__law_numbers, b__law_numbers, e_var, e_int, e_str, e_bl, e_non, e_glb, e_bin, e_cmp, e_chain, e_neg, e_not, e_and, e_or, e_one, e_ite, e_tup, e_lst, e_dic, e_idx, e_dget, e_slc, e_get1, e_get2, e_call, e_bi, e_isa, e_comp, e_comp2, e_dcomp, es_nil, es_cons, eo_no, eo_yes, ec_no, ec_yes, ei_seq, ei_rng1, ei_rng2, s_asg, s_aug, s_setL, s_setD, s_app, s_ext, s_pop, s_ite, s_for_, s_wh, s_ret, s_retN, s_brk, s_cnt, s_pas, ss_nil, ss_cons, sq_nx, sq_rt, sq_bk, sq_ct, rn_nx, rn_rt, evAsg, startG, putNm, giveUp, Dl.at_non, Dl.at_bl, Dl.at_int, Dl.at_str, Dl.at_lst, Dl.at_tup, Dl.at_dic, Dl.mt_non, Dl.mt_bl, Dl.mt_int, Dl.mt_str, Dl.mt_lst, Dl.mt_tup, Dl.mt_dic, fre, esc, escs, esci, getG, asI, asB, dTru, dNot, dNeg, BOp.fo, COp.fo, Bi.fo, onOwn, evApp, evExt, evSetL, evSetD, evAug, AOp.fo, dApp, dExt, dTuple, dList, dInt, dAbs, dLen, dItems, killG, unown, offG, Tg.put, setAll, blkG, wipeG, stepC, stepF, stepD, vAnd, vOr, vChain, q1, q2, q3, q4, q5, q6.1, q7, il q6.2, e, L]
  · rw [if_neg e] at q6
    subst q6
    simp -implicitDefEqProofs -dsimp [F__law_numbers, b__law_numbers, e_var, e_int, e_str, e_bl, e_non, e_glb, e_bin, e_cmp, e_chain, e_neg, e_not, e_and, e_or, e_one, e_ite, e_tup, e_lst, e_dic, e_idx, e_dget, e_slc, e_get1, e_get2, e_call, e_bi, e_isa, e_comp, e_comp2, e_dcomp, es_nil, es_cons, eo_no, eo_yes, ec_no, ec_yes, ei_seq, ei_rng1, ei_rng2, s_asg, s_aug, s_setL, s_setD, s_app, s_ext, s_pop, s_ite, s_for_, s_wh, s_ret, s_retN, s_brk, s_cnt, s_pas, ss_nil, ss_cons, sq_nx, sq_rt, sq_bk, sq_ct, rn_nx, rn_rt, evAsg, startG, putNm, giveUp, Dl.at_non, Dl.at_bl, Dl.at_int, Dl.at_str, Dl.at_lst, Dl.at_tup, Dl.at_dic, Dl.mt_non, Dl.mt_bl, Dl.mt_int, Dl.mt_str, Dl.mt_lst, Dl.mt_tup, Dl.mt_dic, fre, esc, escs, esci, getG, asI, asB, dTru, dNot, dNeg, BOp.fo, COp.fo, Bi.fo, onOwn, evApp, evExt, evSetL, evSetD, evAug, AOp.fo, dApp, dExt, dTuple, dList, dInt, dAbs, dLen, dItems, killG, unown, offG, Tg.put, setAll, blkG, wipeG, stepC, stepF, stepD, vAnd, vOr, vChain, q1, q2, q3, q4, q5, q7, e, L]
end K47

set_option Elab.async false
set_option linter.all false
set_option maxRecDepth 100000
set_option maxHeartbeats 2000000
namespace K47
open Dl PySem
open L2 (atI ixN)
abbrev W := List Str
def fits (q : W) (ans : Bool) (w : Str) : Bool := decide (w ∈ q) == ans
def kept (s q : W) (ans : Bool) : W := s.filter (fits q ans)
def oths (s d q : W) (ans : Bool) : W := s.filter (fun w => !fits q ans w) ++ d.filter (fits q ans)
def lftD (s d q : W) (ans : Bool) : D := .tuple [.tuple (eSs (kept s q ans)), .tuple (eSs (srt (oths s d q ans)))]
theorem kept_len (s q : W) (ans : Bool) : (kept s q ans).length ≤ s.length := List.length_filter_le _ _
theorem lft_ok (s d q : W) (ans : Bool) (hs : s.length ≤ 1000) (hd : d.length ≤ 1000) : okIs (lftD s d q ans) = true ∧ (lftD s d q ans).depth = 2 := by
  have h1 : (kept s q ans).length ≤ 1000 := Nat.le_trans (kept_len s q ans) hs
  have h2 : (srt (oths s d q ans)).length ≤ 2000 := by
    rw [(srt_perm _).length_eq]
    unfold oths
    rw [List.length_append]
    have := List.length_filter_le (fun w => !fits q ans w) s
    have := List.length_filter_le (fits q ans) d
    omega
  constructor
  · unfold lftD
    simp only [okIs, okAll, okAll_ss, len_ss]
    simp
    omega
  · unfold lftD
    simp only [PyData.depth, PyData.depthAll, depth_ss]
    rfl
theorem filt_ss (p : Str → Bool) (ws : W) : (eSs (ws.filter p)).length ≤ ws.length := by
  rw [len_ss]
  exact List.length_filter_le _ _
theorem left_by_answer {k : Nat} (hk : 1 ≤ k) (s d q : W) (ans : Bool) (qd : D) (hq : ∀ w, dIn (.str w) qd = some (.bool (decide (w ∈ q)))) (hs : s.length ≤ 1000) (hd : d.length ≤ 1000) : den G Pf k 0 [.tuple (eSs s), .tuple (eSs d), qd, .bool ans] = some (lftD s d q ans) := by
  rw [den_eq (fd := F_left_by_answer) hk rfl rfl]
  have A : ev G (den G Pf (k - 1)) C1_left_by_answer [some (false, .tuple (eSs s)), some (false, .tuple (eSs d)), some (false, qd), some (false, .bool ans), none, none, none] = some (.list (eSs (kept s q ans))) := by
    unfold C1_left_by_answer
    refine ev_comp (evi_seq (d := .tuple (eSs s)) (by simp -implicitDefEqProofs -dsimp [e_var, e_int, e_str, e_bl, e_non, e_glb, e_bin, e_cmp, e_chain, e_neg, e_not, e_and, e_or, e_one, e_ite, e_tup, e_lst, e_dic, e_idx, e_dget, e_slc, e_get1, e_get2, e_call, e_bi, e_isa, e_comp, e_comp2, e_dcomp, es_nil, es_cons, eo_no, eo_yes, ec_no, ec_yes, ei_seq, ei_rng1, ei_rng2, s_asg, s_aug, s_setL, s_setD, s_app, s_ext, s_pop, s_ite, s_for_, s_wh, s_ret, s_retN, s_brk, s_cnt, s_pas, ss_nil, ss_cons, sq_nx, sq_rt, sq_bk, sq_ct, rn_nx, rn_rt, evAsg, startG, putNm, giveUp, Dl.at_non, Dl.at_bl, Dl.at_int, Dl.at_str, Dl.at_lst, Dl.at_tup, Dl.at_dic, Dl.mt_non, Dl.mt_bl, Dl.mt_int, Dl.mt_str, Dl.mt_lst, Dl.mt_tup, Dl.mt_dic, fre, esc, escs, esci, getG, asI, asB, dTru, dNot, dNeg, BOp.fo, COp.fo, Bi.fo, onOwn, evApp, evExt, evSetL, evSetD, evAug, AOp.fo, dApp, dExt, dTuple, dList, dInt, dAbs, dLen, dItems, killG, unown, offG, Tg.put, setAll, blkG, wipeG, stepC, stepF, stepD, vAnd, vOr, vChain]) rfl) ?_
    refine compL_fm PyData.str (fits q ans) _ _ fun w hw => ?_
    cases h : decide (w ∈ q) <;> cases ans <;> simp -implicitDefEqProofs -dsimp [e_var, e_int, e_str, e_bl, e_non, e_glb, e_bin, e_cmp, e_chain, e_neg, e_not, e_and, e_or, e_one, e_ite, e_tup, e_lst, e_dic, e_idx, e_dget, e_slc, e_get1, e_get2, e_call, e_bi, e_isa, e_comp, e_comp2, e_dcomp, es_nil, es_cons, eo_no, eo_yes, ec_no, ec_yes, ei_seq, ei_rng1, ei_rng2, s_asg, s_aug, s_setL, s_setD, s_app, s_ext, s_pop, s_ite, s_for_, s_wh, s_ret, s_retN, s_brk, s_cnt, s_pas, ss_nil, ss_cons, sq_nx, sq_rt, sq_bk, sq_ct, rn_nx, rn_rt, evAsg, startG, putNm, giveUp, Dl.at_non, Dl.at_bl, Dl.at_int, Dl.at_str, Dl.at_lst, Dl.at_tup, Dl.at_dic, Dl.mt_non, Dl.mt_bl, Dl.mt_int, Dl.mt_str, Dl.mt_lst, Dl.mt_tup, Dl.mt_dic, fre, esc, escs, esci, getG, asI, asB, dTru, dNot, dNeg, BOp.fo, COp.fo, Bi.fo, onOwn, evApp, evExt, evSetL, evSetD, evAug, AOp.fo, dApp, dExt, dTuple, dList, dInt, dAbs, dLen, dItems, killG, unown, offG, Tg.put, setAll, blkG, wipeG, stepC, stepF, stepD, vAnd, vOr, vChain, hq, h, fits]
  have B : ev G (den G Pf (k - 1)) C2_left_by_answer [some (false, .tuple (eSs s)), some (false, .tuple (eSs d)), some (false, qd), some (false, .bool ans), some (true, .list (eSs (kept s q ans))), none, none] = some (.list (eSs (s.filter fun w => !fits q ans w))) := by
    unfold C2_left_by_answer
    refine ev_comp (evi_seq (d := .tuple (eSs s)) (by simp -implicitDefEqProofs -dsimp [e_var, e_int, e_str, e_bl, e_non, e_glb, e_bin, e_cmp, e_chain, e_neg, e_not, e_and, e_or, e_one, e_ite, e_tup, e_lst, e_dic, e_idx, e_dget, e_slc, e_get1, e_get2, e_call, e_bi, e_isa, e_comp, e_comp2, e_dcomp, es_nil, es_cons, eo_no, eo_yes, ec_no, ec_yes, ei_seq, ei_rng1, ei_rng2, s_asg, s_aug, s_setL, s_setD, s_app, s_ext, s_pop, s_ite, s_for_, s_wh, s_ret, s_retN, s_brk, s_cnt, s_pas, ss_nil, ss_cons, sq_nx, sq_rt, sq_bk, sq_ct, rn_nx, rn_rt, evAsg, startG, putNm, giveUp, Dl.at_non, Dl.at_bl, Dl.at_int, Dl.at_str, Dl.at_lst, Dl.at_tup, Dl.at_dic, Dl.mt_non, Dl.mt_bl, Dl.mt_int, Dl.mt_str, Dl.mt_lst, Dl.mt_tup, Dl.mt_dic, fre, esc, escs, esci, getG, asI, asB, dTru, dNot, dNeg, BOp.fo, COp.fo, Bi.fo, onOwn, evApp, evExt, evSetL, evSetD, evAug, AOp.fo, dApp, dExt, dTuple, dList, dInt, dAbs, dLen, dItems, killG, unown, offG, Tg.put, setAll, blkG, wipeG, stepC, stepF, stepD, vAnd, vOr, vChain]) rfl) ?_
    refine compL_fm PyData.str (fun w => !fits q ans w) _ _ fun w hw => ?_
    cases h : decide (w ∈ q) <;> cases ans <;> simp -implicitDefEqProofs -dsimp [e_var, e_int, e_str, e_bl, e_non, e_glb, e_bin, e_cmp, e_chain, e_neg, e_not, e_and, e_or, e_one, e_ite, e_tup, e_lst, e_dic, e_idx, e_dget, e_slc, e_get1, e_get2, e_call, e_bi, e_isa, e_comp, e_comp2, e_dcomp, es_nil, es_cons, eo_no, eo_yes, ec_no, ec_yes, ei_seq, ei_rng1, ei_rng2, s_asg, s_aug, s_setL, s_setD, s_app, s_ext, s_pop, s_ite, s_for_, s_wh, s_ret, s_retN, s_brk, s_cnt, s_pas, ss_nil, ss_cons, sq_nx, sq_rt, sq_bk, sq_ct, rn_nx, rn_rt, evAsg, startG, putNm, giveUp, Dl.at_non, Dl.at_bl, Dl.at_int, Dl.at_str, Dl.at_lst, Dl.at_tup, Dl.at_dic, Dl.mt_non, Dl.mt_bl, Dl.mt_int, Dl.mt_str, Dl.mt_lst, Dl.mt_tup, Dl.mt_dic, fre, esc, escs, esci, getG, asI, asB, dTru, dNot, dNeg, BOp.fo, COp.fo, Bi.fo, onOwn, evApp, evExt, evSetL, evSetD, evAug, AOp.fo, dApp, dExt, dTuple, dList, dInt, dAbs, dLen, dItems, killG, unown, offG, Tg.put, setAll, blkG, wipeG, stepC, stepF, stepD, vAnd, vOr, vChain, hq, h, fits]
  have C : ev G (den G Pf (k - 1)) C3_left_by_answer [some (false, .tuple (eSs s)), some (false, .tuple (eSs d)), some (false, qd), some (false, .bool ans), some (true, .list (eSs (kept s q ans))), some (true, .list (eSs (s.filter fun w => !fits q ans w))), none] = some (.list (eSs (d.filter (fits q ans)))) := by
    unfold C3_left_by_answer
    refine ev_comp (evi_seq (d := .tuple (eSs d)) (by simp -implicitDefEqProofs -dsimp [e_var, e_int, e_str, e_bl, e_non, e_glb, e_bin, e_cmp, e_chain, e_neg, e_not, e_and, e_or, e_one, e_ite, e_tup, e_lst, e_dic, e_idx, e_dget, e_slc, e_get1, e_get2, e_call, e_bi, e_isa, e_comp, e_comp2, e_dcomp, es_nil, es_cons, eo_no, eo_yes, ec_no, ec_yes, ei_seq, ei_rng1, ei_rng2, s_asg, s_aug, s_setL, s_setD, s_app, s_ext, s_pop, s_ite, s_for_, s_wh, s_ret, s_retN, s_brk, s_cnt, s_pas, ss_nil, ss_cons, sq_nx, sq_rt, sq_bk, sq_ct, rn_nx, rn_rt, evAsg, startG, putNm, giveUp, Dl.at_non, Dl.at_bl, Dl.at_int, Dl.at_str, Dl.at_lst, Dl.at_tup, Dl.at_dic, Dl.mt_non, Dl.mt_bl, Dl.mt_int, Dl.mt_str, Dl.mt_lst, Dl.mt_tup, Dl.mt_dic, fre, esc, escs, esci, getG, asI, asB, dTru, dNot, dNeg, BOp.fo, COp.fo, Bi.fo, onOwn, evApp, evExt, evSetL, evSetD, evAug, AOp.fo, dApp, dExt, dTuple, dList, dInt, dAbs, dLen, dItems, killG, unown, offG, Tg.put, setAll, blkG, wipeG, stepC, stepF, stepD, vAnd, vOr, vChain]) rfl) ?_
    refine compL_fm PyData.str (fits q ans) _ _ fun w hw => ?_
    cases h : decide (w ∈ q) <;> cases ans <;> simp -implicitDefEqProofs -dsimp [e_var, e_int, e_str, e_bl, e_non, e_glb, e_bin, e_cmp, e_chain, e_neg, e_not, e_and, e_or, e_one, e_ite, e_tup, e_lst, e_dic, e_idx, e_dget, e_slc, e_get1, e_get2, e_call, e_bi, e_isa, e_comp, e_comp2, e_dcomp, es_nil, es_cons, eo_no, eo_yes, ec_no, ec_yes, ei_seq, ei_rng1, ei_rng2, s_asg, s_aug, s_setL, s_setD, s_app, s_ext, s_pop, s_ite, s_for_, s_wh, s_ret, s_retN, s_brk, s_cnt, s_pas, ss_nil, ss_cons, sq_nx, sq_rt, sq_bk, sq_ct, rn_nx, rn_rt, evAsg, startG, putNm, giveUp, Dl.at_non, Dl.at_bl, Dl.at_int, Dl.at_str, Dl.at_lst, Dl.at_tup, Dl.at_dic, Dl.mt_non, Dl.mt_bl, Dl.mt_int, Dl.mt_str, Dl.mt_lst, Dl.mt_tup, Dl.mt_dic, fre, esc, escs, esci, getG, asI, asB, dTru, dNot, dNeg, BOp.fo, COp.fo, Bi.fo, onOwn, evApp, evExt, evSetL, evSetD, evAug, AOp.fo, dApp, dExt, dTuple, dList, dInt, dAbs, dLen, dItems, killG, unown, offG, Tg.put, setAll, blkG, wipeG, stepC, stepF, stepD, vAnd, vOr, vChain, hq, h, fits]
  have e1 : esc C1_left_by_answer = [0] := rfl
  have e2 : esc C2_left_by_answer = [0] := rfl
  have e3 : esc C3_left_by_answer = [1] := rfl
  have f1 : fre C1_left_by_answer = true := rfl
  have f2 : fre C2_left_by_answer = true := rfl
  have l1 := filt_ss (fun w => !fits q ans w) s
  have l2 := filt_ss (fits q ans) d
  have fz : (eSs (s.filter fun w => !fits q ans w)).length + (eSs (d.filter (fits q ans))).length ≤ 16777216 := by omega
  have so := sorted_lst (oths s d q ans)
  unfold oths at so
  rw [← app_ss] at so
  simp -implicitDefEqProofs -dsimp [F_left_by_answer, b_left_by_answer, e_var, e_int, e_str, e_bl, e_non, e_glb, e_bin, e_cmp, e_chain, e_neg, e_not, e_and, e_or, e_one, e_ite, e_tup, e_lst, e_dic, e_idx, e_dget, e_slc, e_get1, e_get2, e_call, e_bi, e_isa, e_comp, e_comp2, e_dcomp, es_nil, es_cons, eo_no, eo_yes, ec_no, ec_yes, ei_seq, ei_rng1, ei_rng2, s_asg, s_aug, s_setL, s_setD, s_app, s_ext, s_pop, s_ite, s_for_, s_wh, s_ret, s_retN, s_brk, s_cnt, s_pas, ss_nil, ss_cons, sq_nx, sq_rt, sq_bk, sq_ct, rn_nx, rn_rt, evAsg, startG, putNm, giveUp, Dl.at_non, Dl.at_bl, Dl.at_int, Dl.at_str, Dl.at_lst, Dl.at_tup, Dl.at_dic, Dl.mt_non, Dl.mt_bl, Dl.mt_int, Dl.mt_str, Dl.mt_lst, Dl.mt_tup, Dl.mt_dic, fre, esc, escs, esci, getG, asI, asB, dTru, dNot, dNeg, BOp.fo, COp.fo, Bi.fo, onOwn, evApp, evExt, evSetL, evSetD, evAug, AOp.fo, dApp, dExt, dTuple, dList, dInt, dAbs, dLen, dItems, killG, unown, offG, Tg.put, setAll, blkG, wipeG, stepC, stepF, stepD, vAnd, vOr, vChain, A, B, C, e1, e2, e3, f1, f2, fit, fz, so, lftD, oths]
theorem law_left {k : Nat} (hk : 1 ≤ k) (s d q : W) (ans : Bool) (qd : D) (hq : ∀ w, dIn (.str w) qd = some (.bool (decide (w ∈ q)))) (hs : s.length ≤ 1000) (hd : d.length ≤ 1000) : den G Pf k 16 [.tuple (eSs s), .tuple (eSs d), qd, .bool ans] = some (lftD s d q ans) := by
  rw [den_eq (fd := F__law_left) hk rfl rfl]
  have L : evS G (den G Pf (k - 1)) L1__law_left [some (false, .tuple (eSs s)), some (false, .tuple (eSs d)), some (false, qd), some (false, .bool ans), some (true, .list (eSs [])), some (true, .list (eSs [])), none] = some (.nx [some (false, .tuple (eSs s)), some (false, .tuple (eSs d)), some (false, qd), some (false, .bool ans), some (true, .list (eSs (kept s q ans))), some (true, .list (eSs (s.filter fun w => !fits q ans w))), none]) := by
    unfold L1__law_left
    rw [for_seq (d := .tuple (eSs s)) (ds := eSs s) (by simp -implicitDefEqProofs -dsimp [e_var, e_int, e_str, e_bl, e_non, e_glb, e_bin, e_cmp, e_chain, e_neg, e_not, e_and, e_or, e_one, e_ite, e_tup, e_lst, e_dic, e_idx, e_dget, e_slc, e_get1, e_get2, e_call, e_bi, e_isa, e_comp, e_comp2, e_dcomp, es_nil, es_cons, eo_no, eo_yes, ec_no, ec_yes, ei_seq, ei_rng1, ei_rng2, s_asg, s_aug, s_setL, s_setD, s_app, s_ext, s_pop, s_ite, s_for_, s_wh, s_ret, s_retN, s_brk, s_cnt, s_pas, ss_nil, ss_cons, sq_nx, sq_rt, sq_bk, sq_ct, rn_nx, rn_rt, evAsg, startG, putNm, giveUp, Dl.at_non, Dl.at_bl, Dl.at_int, Dl.at_str, Dl.at_lst, Dl.at_tup, Dl.at_dic, Dl.mt_non, Dl.mt_bl, Dl.mt_int, Dl.mt_str, Dl.mt_lst, Dl.mt_tup, Dl.mt_dic, fre, esc, escs, esci, getG, asI, asB, dTru, dNot, dNeg, BOp.fo, COp.fo, Bi.fo, onOwn, evApp, evExt, evSetL, evSetD, evAug, AOp.fo, dApp, dExt, dTuple, dList, dInt, dAbs, dLen, dItems, killG, unown, offG, Tg.put, setAll, blkG, wipeG, stepC, stepF, stepD, vAnd, vOr, vChain]) rfl]
    have := evFor_lp (S := W × W) (t := .nm 6) (body := evSs G (den G Pf (k - 1)) B1__law_left) (kl := [6]) PyData.str (fun z => [some (false, .tuple (eSs s)), some (false, .tuple (eSs d)), some (false, qd), some (false, .bool ans), some (true, .list (eSs z.1)), some (true, .list (eSs z.2)), none]) (fun w z => .nx (if fits q ans w = true then (z.1 ++ [w], z.2) else (z.1, z.2 ++ [w]))) (fun xs z => z.1.length + z.2.length + xs.length ≤ 1000)
      (fun w xs z hz => ⟨[some (false, .tuple (eSs s)), some (false, .tuple (eSs d)), some (false, qd), some (false, .bool ans), some (true, .list (eSs z.1)), some (true, .list (eSs z.2)), some (false, .str w)], .nx [some (false, .tuple (eSs s)), some (false, .tuple (eSs d)), some (false, qd), some (false, .bool ans), some (true, .list (eSs (if fits q ans w = true then (z.1 ++ [w], z.2) else (z.1, z.2 ++ [w])).1)), some (true, .list (eSs (if fits q ans w = true then (z.1 ++ [w], z.2) else (z.1, z.2 ++ [w])).2)), some (false, .str w)], rfl, by
        rw [List.length_cons] at hz
        have z1 : (eSs z.1).length < 16777216 := by rw [len_ss]; omega
        have z2 : (eSs z.2).length < 16777216 := by rw [len_ss]; omega
        have a1 : eSs z.1 ++ [PyData.str w] = eSs (z.1 ++ [w]) := app_ss z.1 [w]
        have a2 : eSs z.2 ++ [PyData.str w] = eSs (z.2 ++ [w]) := app_ss z.2 [w]
        cases h : decide (w ∈ q) <;> cases ans <;> simp -implicitDefEqProofs -dsimp [B1__law_left, e_var, e_int, e_str, e_bl, e_non, e_glb, e_bin, e_cmp, e_chain, e_neg, e_not, e_and, e_or, e_one, e_ite, e_tup, e_lst, e_dic, e_idx, e_dget, e_slc, e_get1, e_get2, e_call, e_bi, e_isa, e_comp, e_comp2, e_dcomp, es_nil, es_cons, eo_no, eo_yes, ec_no, ec_yes, ei_seq, ei_rng1, ei_rng2, s_asg, s_aug, s_setL, s_setD, s_app, s_ext, s_pop, s_ite, s_for_, s_wh, s_ret, s_retN, s_brk, s_cnt, s_pas, ss_nil, ss_cons, sq_nx, sq_rt, sq_bk, sq_ct, rn_nx, rn_rt, evAsg, startG, putNm, giveUp, Dl.at_non, Dl.at_bl, Dl.at_int, Dl.at_str, Dl.at_lst, Dl.at_tup, Dl.at_dic, Dl.mt_non, Dl.mt_bl, Dl.mt_int, Dl.mt_str, Dl.mt_lst, Dl.mt_tup, Dl.mt_dic, fre, esc, escs, esci, getG, asI, asB, dTru, dNot, dNeg, BOp.fo, COp.fo, Bi.fo, onOwn, evApp, evExt, evSetL, evSetD, evAug, AOp.fo, dApp, dExt, dTuple, dList, dInt, dAbs, dLen, dItems, killG, unown, offG, Tg.put, setAll, blkG, wipeG, stepC, stepF, stepD, vAnd, vOr, vChain, hq, h, fits, z1, z2, a1, a2], by simp [Fit, killG], fun s' hs' => by
        cases hs'
        rw [List.length_cons] at hz
        split <;> simp <;> omega⟩) s ([], []) (by simpa using hs)
    refine Eq.trans this ?_
    have go : ∀ (xs : W) (z : W × W), lp (fun w (z : W × W) => Lp.nx (if fits q ans w = true then (z.1 ++ [w], z.2) else (z.1, z.2 ++ [w]))) xs z = Lp.nx (z.1 ++ xs.filter (fits q ans), z.2 ++ xs.filter fun w => !fits q ans w) := fun xs => by
      induction xs with
      | nil => intro z; simp [lp]
      | cons w xs ih =>
        intro z
        refine Eq.trans (ih _) ?_
        cases h : fits q ans w <;> simp [h]
    rw [go]
    simp [Lp.fw, kept]
  have C : ev G (den G Pf (k - 1)) C1__law_left [some (false, .tuple (eSs s)), some (false, .tuple (eSs d)), some (false, qd), some (false, .bool ans), some (true, .list (eSs (kept s q ans))), some (true, .list (eSs (s.filter fun w => !fits q ans w))), none] = some (.list (eSs (d.filter (fits q ans)))) := by
    unfold C1__law_left
    refine ev_comp (evi_seq (d := .tuple (eSs d)) (by simp -implicitDefEqProofs -dsimp [e_var, e_int, e_str, e_bl, e_non, e_glb, e_bin, e_cmp, e_chain, e_neg, e_not, e_and, e_or, e_one, e_ite, e_tup, e_lst, e_dic, e_idx, e_dget, e_slc, e_get1, e_get2, e_call, e_bi, e_isa, e_comp, e_comp2, e_dcomp, es_nil, es_cons, eo_no, eo_yes, ec_no, ec_yes, ei_seq, ei_rng1, ei_rng2, s_asg, s_aug, s_setL, s_setD, s_app, s_ext, s_pop, s_ite, s_for_, s_wh, s_ret, s_retN, s_brk, s_cnt, s_pas, ss_nil, ss_cons, sq_nx, sq_rt, sq_bk, sq_ct, rn_nx, rn_rt, evAsg, startG, putNm, giveUp, Dl.at_non, Dl.at_bl, Dl.at_int, Dl.at_str, Dl.at_lst, Dl.at_tup, Dl.at_dic, Dl.mt_non, Dl.mt_bl, Dl.mt_int, Dl.mt_str, Dl.mt_lst, Dl.mt_tup, Dl.mt_dic, fre, esc, escs, esci, getG, asI, asB, dTru, dNot, dNeg, BOp.fo, COp.fo, Bi.fo, onOwn, evApp, evExt, evSetL, evSetD, evAug, AOp.fo, dApp, dExt, dTuple, dList, dInt, dAbs, dLen, dItems, killG, unown, offG, Tg.put, setAll, blkG, wipeG, stepC, stepF, stepD, vAnd, vOr, vChain]) rfl) ?_
    refine compL_fm PyData.str (fits q ans) _ _ fun w hw => ?_
    cases h : decide (w ∈ q) <;> cases ans <;> simp -implicitDefEqProofs -dsimp [e_var, e_int, e_str, e_bl, e_non, e_glb, e_bin, e_cmp, e_chain, e_neg, e_not, e_and, e_or, e_one, e_ite, e_tup, e_lst, e_dic, e_idx, e_dget, e_slc, e_get1, e_get2, e_call, e_bi, e_isa, e_comp, e_comp2, e_dcomp, es_nil, es_cons, eo_no, eo_yes, ec_no, ec_yes, ei_seq, ei_rng1, ei_rng2, s_asg, s_aug, s_setL, s_setD, s_app, s_ext, s_pop, s_ite, s_for_, s_wh, s_ret, s_retN, s_brk, s_cnt, s_pas, ss_nil, ss_cons, sq_nx, sq_rt, sq_bk, sq_ct, rn_nx, rn_rt, evAsg, startG, putNm, giveUp, Dl.at_non, Dl.at_bl, Dl.at_int, Dl.at_str, Dl.at_lst, Dl.at_tup, Dl.at_dic, Dl.mt_non, Dl.mt_bl, Dl.mt_int, Dl.mt_str, Dl.mt_lst, Dl.mt_tup, Dl.mt_dic, fre, esc, escs, esci, getG, asI, asB, dTru, dNot, dNeg, BOp.fo, COp.fo, Bi.fo, onOwn, evApp, evExt, evSetL, evSetD, evAug, AOp.fo, dApp, dExt, dTuple, dList, dInt, dAbs, dLen, dItems, killG, unown, offG, Tg.put, setAll, blkG, wipeG, stepC, stepF, stepD, vAnd, vOr, vChain, hq, h, fits]
  have e1 : esc C1__law_left = [1] := rfl
  have l1 := filt_ss (fun w => !fits q ans w) s
  have l2 := filt_ss (fits q ans) d
  have fz : (eSs (s.filter fun w => !fits q ans w)).length + (eSs (d.filter (fits q ans))).length ≤ 16777216 := by omega
  have so := sorted_lst (oths s d q ans)
  unfold oths at so
  rw [← app_ss] at so
  have L' : evS G (den G Pf (k - 1)) L1__law_left [some (false, .tuple (eSs s)), some (false, .tuple (eSs d)), some (false, qd), some (false, .bool ans), some (true, .list []), some (true, .list []), none] = _ := L
  simp -implicitDefEqProofs -dsimp [F__law_left, b__law_left, e_var, e_int, e_str, e_bl, e_non, e_glb, e_bin, e_cmp, e_chain, e_neg, e_not, e_and, e_or, e_one, e_ite, e_tup, e_lst, e_dic, e_idx, e_dget, e_slc, e_get1, e_get2, e_call, e_bi, e_isa, e_comp, e_comp2, e_dcomp, es_nil, es_cons, eo_no, eo_yes, ec_no, ec_yes, ei_seq, ei_rng1, ei_rng2, s_asg, s_aug, s_setL, s_setD, s_app, s_ext, s_pop, s_ite, s_for_, s_wh, s_ret, s_retN, s_brk, s_cnt, s_pas, ss_nil, ss_cons, sq_nx, sq_rt, sq_bk, sq_ct, rn_nx, rn_rt, evAsg, startG, putNm, giveUp, Dl.at_non, Dl.at_bl, Dl.at_int, Dl.at_str, Dl.at_lst, Dl.at_tup, Dl.at_dic, Dl.mt_non, Dl.mt_bl, Dl.mt_int, Dl.mt_str, Dl.mt_lst, Dl.mt_tup, Dl.mt_dic, fre, esc, escs, esci, getG, asI, asB, dTru, dNot, dNeg, BOp.fo, COp.fo, Bi.fo, onOwn, evApp, evExt, evSetL, evSetD, evAug, AOp.fo, dApp, dExt, dTuple, dList, dInt, dAbs, dLen, dItems, killG, unown, offG, Tg.put, setAll, blkG, wipeG, stepC, stepF, stepD, vAnd, vOr, vChain, L', C, e1, fit, fz, so, lftD, oths, dAdd]
end K47

set_option Elab.async false
set_option linter.all false
set_option maxRecDepth 100000
set_option maxHeartbeats 2000000
namespace K47
open Dl PySem
open L2 (atI ixN)
/-- a loop whose turns all go on -/
theorem evFor_inv {α S : Type} {t : Tg} {body : Gm → Option Fw} {kl : List Nat} (enc : α → D) (mk : S → Gm) (I : List α → S → Prop)
    (h : ∀ x xs s, I (x :: xs) s → ∃ Γ Γ' s', t.put (enc x) (mk s) = some Γ ∧ body Γ = some (.nx Γ') ∧ killG kl Γ' = mk s' ∧ I xs s') : ∀ (xs : List α) (s : S), I xs s → ∃ s', evFor t body kl (xs.map enc) (mk s) = some (.nx (mk s')) ∧ I [] s'
  | [], s, h0 => ⟨s, rfl, h0⟩
  | x :: xs, s, h0 => by
    obtain ⟨Γ, Γ', s', e1, e2, e3, h1⟩ := h x xs s h0
    obtain ⟨s2, e4, h2⟩ := evFor_inv enc mk I h xs s' h1
    refine ⟨s2, ?_, h2⟩
    rw [List.map_cons]
    unfold evFor
    rw [e1]
    refine Eq.trans (b := (body Γ).bind (stepL kl (evFor t body kl (xs.map enc)))) rfl ?_
    rw [e2]
    refine Eq.trans (b := evFor t body kl (xs.map enc) (killG kl Γ')) rfl ?_
    rw [e3]
    exact e4
/-! ### words -/
theorem filter_in_drop {s : W} (h : s.Nodup) (n : Nat) : s.filter (fun w => decide (w ∈ s.drop n)) = s.drop n := by
  have e : s.take n ++ s.drop n = s := List.take_append_drop n s
  have nd : (s.take n ++ s.drop n).Nodup := by rw [e]; exact h
  rw [List.nodup_append] at nd
  generalize s.take n = u at *
  generalize s.drop n = v at *
  subst e
  rw [List.filter_append]
  have h1 : u.filter (fun w => decide (w ∈ v)) = [] := by
    rw [List.filter_eq_nil_iff]
    intro w hw z
    exact nd.2.2 w hw w (of_decide_eq_true z) rfl
  have h2 : v.filter (fun w => decide (w ∈ v)) = v := by
    rw [List.filter_eq_self]
    intro w hw
    exact decide_eq_true hw
  rw [h1, h2]
  rfl
theorem filter_in_take {s : W} (h : s.Nodup) (n : Nat) : s.filter (fun w => decide (w ∈ s.take n)) = s.take n := by
  have e : s.take n ++ s.drop n = s := List.take_append_drop n s
  have nd : (s.take n ++ s.drop n).Nodup := by rw [e]; exact h
  rw [List.nodup_append] at nd
  generalize s.take n = u at *
  generalize s.drop n = v at *
  subst e
  rw [List.filter_append]
  have h1 : v.filter (fun w => decide (w ∈ u)) = [] := by
    rw [List.filter_eq_nil_iff]
    intro w hw z
    exact nd.2.2 w (of_decide_eq_true z) w hw rfl
  have h2 : u.filter (fun w => decide (w ∈ u)) = u := by
    rw [List.filter_eq_self]
    intro w hw
    exact decide_eq_true hw
  rw [h1, h2, List.append_nil]
theorem filter_not_len {α : Type} (p : α → Bool) : ∀ xs : List α, (xs.filter p).length + (xs.filter fun x => !p x).length = xs.length
  | [] => rfl
  | x :: xs => by
    have := filter_not_len p xs
    cases h : p x <;> simp [h] <;> omega
theorem split_perm {α : Type} (p : α → Bool) : ∀ xs : List α, (xs.filter p ++ xs.filter fun x => !p x).Perm xs
  | [] => .nil
  | x :: xs => by
    have ih := split_perm p xs
    cases h : p x with
    | true =>
      simp only [List.filter_cons, h, if_true, Bool.not_true, List.cons_append]
      simpa using ih.cons x
    | false =>
      simp only [List.filter_cons, h, Bool.not_false, if_true]
      simp only [Bool.false_eq_true, if_false]
      exact List.perm_middle.trans (ih.cons x)
def ask (s d : W) (x y : Nat) : W := srt (s.drop (s.length - x) ++ d.take y ++ [("zebra" : Str)])
structure Good2 (s d : W) : Prop where
  nd : (s ++ d).Nodup
  z : ("zebra" : Str) ∉ s ++ d
  len : s.length + d.length ≤ 10
theorem mem_ask_s {s d : W} (g : Good2 s d) {x y : Nat} {w : Str} (hw : w ∈ s) : decide (w ∈ ask s d x y) = decide (w ∈ s.drop (s.length - x)) := by
  have nd := g.nd
  rw [List.nodup_append] at nd
  refine decide_eq_decide.mpr ?_
  unfold ask
  rw [(srt_perm _).mem_iff, List.mem_append, List.mem_append, List.mem_singleton]
  constructor
  · rintro ((h | h) | h)
    · exact h
    · exact absurd rfl (nd.2.2 w hw w (List.mem_of_mem_take h))
    · exact absurd (List.mem_append_left d (h ▸ hw)) g.z
  · exact fun h => .inl (.inl h)
theorem mem_ask_d {s d : W} (g : Good2 s d) {x y : Nat} {w : Str} (hw : w ∈ d) : decide (w ∈ ask s d x y) = decide (w ∈ d.take y) := by
  have nd := g.nd
  rw [List.nodup_append] at nd
  refine decide_eq_decide.mpr ?_
  unfold ask
  rw [(srt_perm _).mem_iff, List.mem_append, List.mem_append, List.mem_singleton]
  constructor
  · rintro ((h | h) | h)
    · exact absurd rfl (nd.2.2 w (List.mem_of_mem_drop h) w hw)
    · exact h
    · exact absurd (List.mem_append_right s (h ▸ hw)) g.z
  · exact fun h => .inl (.inr h)
theorem next_state {s d : W} (g : Good2 s d) (x y : Nat) (hx : x ≤ s.length) (hy : y ≤ d.length) (ans : Bool) : Good2 (kept s (ask s d x y) ans) (srt (oths s d (ask s d x y) ans)) ∧
    (kept s (ask s d x y) ans).length = (if ans = true then x else s.length - x) ∧ (srt (oths s d (ask s d x y) ans)).length = (if ans = true then s.length - x + y else x + (d.length - y)) := by
  have nd := g.nd
  rw [List.nodup_append] at nd
  have f1 : s.filter (fun w => decide (w ∈ ask s d x y)) = s.drop (s.length - x) := by
    rw [← filter_in_drop nd.1 (s.length - x)]
    exact List.filter_congr fun w hw => mem_ask_s g hw
  have f2 : d.filter (fun w => decide (w ∈ ask s d x y)) = d.take y := by
    rw [← filter_in_take nd.2.1 y]
    exact List.filter_congr fun w hw => mem_ask_d g hw
  have l1 : (s.filter fun w => decide (w ∈ ask s d x y)).length = x := by
    rw [f1, List.length_drop]
    omega
  have l2 : (d.filter fun w => decide (w ∈ ask s d x y)).length = y := by
    rw [f2, List.length_take]
    omega
  have n1 := filter_not_len (fun w => decide (w ∈ ask s d x y)) s
  have n2 := filter_not_len (fun w => decide (w ∈ ask s d x y)) d
  have pm : (kept s (ask s d x y) ans ++ srt (oths s d (ask s d x y) ans)).Perm (s ++ d.filter (fits (ask s d x y) ans)) := by
    refine (List.Perm.append_left _ (srt_perm _)).trans ?_
    unfold kept oths
    rw [← List.append_assoc]
    exact (split_perm (fits (ask s d x y) ans) s).append_right _
  have sub : (s ++ d.filter (fits (ask s d x y) ans)).Sublist (s ++ d) := List.Sublist.append (List.Sublist.refl s) List.filter_sublist
  have lens : (kept s (ask s d x y) ans).length = (if ans = true then x else s.length - x) ∧ (srt (oths s d (ask s d x y) ans)).length = (if ans = true then s.length - x + y else x + (d.length - y)) := by
    rw [(srt_perm _).length_eq]
    unfold kept oths fits
    rw [List.length_append]
    cases ans with
    | true =>
      simp only [beq_true, if_true]
      omega
    | false =>
      simp only [beq_false, Bool.not_not, Bool.false_eq_true, if_false]
      omega
  refine ⟨⟨pm.nodup_iff.mpr (sub.nodup g.nd), fun z => g.z (sub.subset (pm.mem_iff.mp z)), ?_⟩, lens⟩
  have := g.len
  rw [lens.1, lens.2]
  cases ans <;> simp <;> omega
end K47

set_option Elab.async false
set_option linter.all false
set_option maxRecDepth 100000
set_option maxHeartbeats 2000000
namespace K47
open Dl PySem
open L2 (atI ixN)
theorem cut_from {α : Type} (xs : List α) (n : Nat) (h : n ≤ xs.length) : cutL xs (some (n : Int)) none = xs.drop n := by
  unfold cutL
  rw [HT.sIx_nat, HT.sIx_none, Nat.min_eq_left h, List.take_of_length_le]
  rw [List.length_drop]
  exact Nat.le_refl _
theorem cut_to {α : Type} (xs : List α) (n : Nat) (h : n ≤ xs.length) : cutL xs none (some (n : Int)) = xs.take n := by
  unfold cutL
  rw [HT.sIx_nat, HT.sIx_none, Nat.min_eq_left h, List.drop_zero, Nat.sub_zero]
theorem drop_ss (ws : W) (n : Nat) : (eSs ws).drop n = eSs (ws.drop n) := by
  unfold eSs
  rw [List.map_drop]
theorem take_ss (ws : W) (n : Nat) : (eSs ws).take n = eSs (ws.take n) := by
  unfold eSs
  rw [List.map_take]
def ansOf (z : Int) : Bool := decide (z.fmod 2 = 0)
theorem search {k : Nat} (hk : 8 ≤ k) (s d : W) (g : Good2 s d) (xs : List Int) (hx : 9 ≤ xs.length) : den G Pf k 17 [.tuple (eSs s), .tuple (eSs d), .list (xs.map .int), .list (lvs 10)] = some (.bool true) := by
  obtain ⟨m, hm, h1, h2⟩ := few_ex s.length d.length g.len
  have q1 := law_fewest (k := k - 1) (by omega) s.length d.length m g.len hm h1 h2
  rw [den_eq (fd := F__law_search) (by omega) rfl rfl]
  have lp : ∃ z : W × W, evS G (den G Pf (k - 1)) L1__law_search [some (false, .tuple (eSs s)), some (false, .tuple (eSs d)), some (false, .list (xs.map .int)), some (false, .list (lvs 10)), some (false, .int m), none, none, none, none, none, none] = some (.nx [some (false, .tuple (eSs z.1)), some (false, .tuple (eSs z.2)), some (false, .list (xs.map .int)), some (false, .list (lvs 10)), some (false, .int m), none, none, none, none, none, none]) ∧ Good2 z.1 z.2 ∧ Lv 0 ((z.1.length : Int), (z.2.length : Int)) = true := by
    unfold L1__law_search
    rw [for_rng1 (n := m) (by simp -implicitDefEqProofs -dsimp [e_var, e_int, e_str, e_bl, e_non, e_glb, e_bin, e_cmp, e_chain, e_neg, e_not, e_and, e_or, e_one, e_ite, e_tup, e_lst, e_dic, e_idx, e_dget, e_slc, e_get1, e_get2, e_call, e_bi, e_isa, e_comp, e_comp2, e_dcomp, es_nil, es_cons, eo_no, eo_yes, ec_no, ec_yes, ei_seq, ei_rng1, ei_rng2, s_asg, s_aug, s_setL, s_setD, s_app, s_ext, s_pop, s_ite, s_for_, s_wh, s_ret, s_retN, s_brk, s_cnt, s_pas, ss_nil, ss_cons, sq_nx, sq_rt, sq_bk, sq_ct, rn_nx, rn_rt, evAsg, startG, putNm, giveUp, Dl.at_non, Dl.at_bl, Dl.at_int, Dl.at_str, Dl.at_lst, Dl.at_tup, Dl.at_dic, Dl.mt_non, Dl.mt_bl, Dl.mt_int, Dl.mt_str, Dl.mt_lst, Dl.mt_tup, Dl.mt_dic, fre, esc, escs, esci, getG, asI, asB, dTru, dNot, dNeg, BOp.fo, COp.fo, Bi.fo, onOwn, evApp, evExt, evSetL, evSetD, evAug, AOp.fo, dApp, dExt, dTuple, dList, dInt, dAbs, dLen, dItems, killG, unown, offG, Tg.put, setAll, blkG, wipeG, stepC, stepF, stepD, vAnd, vOr, vChain]) (by omega)]
    obtain ⟨z, e, g1, g2, _⟩ := evFor_inv (S := W × W) (t := .nm 5) (body := evSs G (den G Pf (k - 1)) B1__law_search) (kl := [5, 6, 7, 8, 9, 10]) (fun i : Nat => PyData.int i) (fun z => [some (false, .tuple (eSs z.1)), some (false, .tuple (eSs z.2)), some (false, .list (xs.map .int)), some (false, .list (lvs 10)), some (false, .int m), none, none, none, none, none, none])
      (fun ts z => Good2 z.1 z.2 ∧ Lv ts.length ((z.1.length : Int), (z.2.length : Int)) = true ∧ ∀ t ∈ ts, t < 9) (fun t ts z ⟨g1, g2, g3⟩ => by
        obtain ⟨s, d⟩ := z
        simp only at g1 g2 ⊢
        refine ⟨[some (false, .tuple (eSs s)), some (false, .tuple (eSs d)), some (false, .list (xs.map .int)), some (false, .list (lvs 10)), some (false, .int m), some (false, .int t), none, none, none, none, none], ?_⟩
        by_cases e : s.length + d.length ≤ 1
        · refine ⟨[some (false, .tuple (eSs s)), some (false, .tuple (eSs d)), some (false, .list (xs.map .int)), some (false, .list (lvs 10)), some (false, .int m), some (false, .int t), none, none, none, none, none], (s, d), rfl, ?_, by simp -implicitDefEqProofs -dsimp [e_var, e_int, e_str, e_bl, e_non, e_glb, e_bin, e_cmp, e_chain, e_neg, e_not, e_and, e_or, e_one, e_ite, e_tup, e_lst, e_dic, e_idx, e_dget, e_slc, e_get1, e_get2, e_call, e_bi, e_isa, e_comp, e_comp2, e_dcomp, es_nil, es_cons, eo_no, eo_yes, ec_no, ec_yes, ei_seq, ei_rng1, ei_rng2, s_asg, s_aug, s_setL, s_setD, s_app, s_ext, s_pop, s_ite, s_for_, s_wh, s_ret, s_retN, s_brk, s_cnt, s_pas, ss_nil, ss_cons, sq_nx, sq_rt, sq_bk, sq_ct, rn_nx, rn_rt, evAsg, startG, putNm, giveUp, Dl.at_non, Dl.at_bl, Dl.at_int, Dl.at_str, Dl.at_lst, Dl.at_tup, Dl.at_dic, Dl.mt_non, Dl.mt_bl, Dl.mt_int, Dl.mt_str, Dl.mt_lst, Dl.mt_tup, Dl.mt_dic, fre, esc, escs, esci, getG, asI, asB, dTru, dNot, dNeg, BOp.fo, COp.fo, Bi.fo, onOwn, evApp, evExt, evSetL, evSetD, evAug, AOp.fo, dApp, dExt, dTuple, dList, dInt, dAbs, dLen, dItems, killG, unown, offG, Tg.put, setAll, blkG, wipeG, stepC, stepF, stepD, vAnd, vOr, vChain], g1, ?_, fun t ht => g3 t (by simp [ht])⟩
          · have e' : ¬ ((s.length : Int) + d.length > 1) := by omega
            simp -implicitDefEqProofs -dsimp [B1__law_search, e_var, e_int, e_str, e_bl, e_non, e_glb, e_bin, e_cmp, e_chain, e_neg, e_not, e_and, e_or, e_one, e_ite, e_tup, e_lst, e_dic, e_idx, e_dget, e_slc, e_get1, e_get2, e_call, e_bi, e_isa, e_comp, e_comp2, e_dcomp, es_nil, es_cons, eo_no, eo_yes, ec_no, ec_yes, ei_seq, ei_rng1, ei_rng2, s_asg, s_aug, s_setL, s_setD, s_app, s_ext, s_pop, s_ite, s_for_, s_wh, s_ret, s_retN, s_brk, s_cnt, s_pas, ss_nil, ss_cons, sq_nx, sq_rt, sq_bk, sq_ct, rn_nx, rn_rt, evAsg, startG, putNm, giveUp, Dl.at_non, Dl.at_bl, Dl.at_int, Dl.at_str, Dl.at_lst, Dl.at_tup, Dl.at_dic, Dl.mt_non, Dl.mt_bl, Dl.mt_int, Dl.mt_str, Dl.mt_lst, Dl.mt_tup, Dl.mt_dic, fre, esc, escs, esci, getG, asI, asB, dTru, dNot, dNeg, BOp.fo, COp.fo, Bi.fo, onOwn, evApp, evExt, evSetL, evSetD, evAug, AOp.fo, dApp, dExt, dTuple, dList, dInt, dAbs, dLen, dItems, killG, unown, offG, Tg.put, setAll, blkG, wipeG, stepC, stepF, stepD, vAnd, vOr, vChain, len_ss, e']
          · have z : Lv 0 ((s.length : Int), (d.length : Int)) = true := decide_eq_true (by omega)
            exact Lv_le (Nat.zero_le _) z
        · obtain ⟨n, hn, n1, n2⟩ := few_ex s.length d.length g1.len
          have nr : n ≤ ts.length + 1 := by
            by_cases q : n ≤ ts.length + 1
            · exact q
            · have := n2 (ts.length + 1) (by omega)
              rw [List.length_cons] at g2
              rw [g2] at this
              cases this
          have n0 : 0 < n := by
            rcases Nat.eq_zero_or_pos n with q | q
            · subst q
              have : (s.length : Int) + d.length ≤ 1 := of_decide_eq_true n1
              omega
            · exact q
          have p1 := law_fewest (k := k - 1) (by omega) s.length d.length n g1.len hn n1 n2
          have kh : hasK (Kst (s.length + d.length) n) ((s.length : Int), (d.length : Int)) = true := by rw [hasK_st _ _ _ _ (Nat.le_refl _)]; exact n1
          have kl : ∀ j, j < n → hasK (Kst (s.length + d.length) j) ((s.length : Int), (d.length : Int)) = false := fun j hj => by rw [hasK_st _ _ _ _ (Nat.le_refl _)]; exact n2 j hj
          have p2 := told_split (k := k - 1) (by omega) s.length d.length n g1.len e n0 kh kl (by omega)
          rw [sp_st _ _ _ _ (Nat.le_refl _)] at p2
          have p3 := law_split (k := k - 1) (by omega) s.length d.length g1.len (Lv (n - 1))
          have some_ : (spx (cL (Lv (n - 1))) s.length d.length).isSome = true := by
            obtain ⟨n', rfl⟩ : ∃ n', n = n' + 1 := ⟨n - 1, by omega⟩
            rw [Lv_succ, Bool.or_eq_true] at n1
            rcases n1 with q | q
            · have := of_decide_eq_true q
              omega
            · exact q
          obtain ⟨p, hp⟩ := Option.isSome_iff_exists.mp some_
          obtain ⟨x, y, hx1, hy1, hc, rfl⟩ := spx_get hp
          rw [hp] at p2 p3
          have p4 := law_is (k - 1) (eO (some ((x : Int), (y : Int)))) (eO_ok _).1 (by have := (eO_ok (some ((x : Int), (y : Int)))).2; omega)
          have il : dIdx (.list (lvs 10)) (.int ((n : Int) - 1)) = some (eLv (Lv (n - 1))) := by
            have := lvs_at (n - 1) (by omega)
            have e2 : ((n - 1 : Nat) : Int) = (n : Int) - 1 := by omega
            rw [e2] at this
            exact this
          have e' : (s.length : Int) + d.length > 1 := by omega
          have ht := g3 t (by simp)
          have htx : t < xs.length := by omega
          have id : dIdx (.list (xs.map .int)) (.int t) = some (.int xs[t]) := by
            show atI (xs.map PyData.int) (t : Int) = _
            rw [atI_nat _ _ (by rw [List.length_map]; exact htx)]
            simp
          have i0 : dIdx (eO (some ((x : Int), (y : Int)))) (.int 0) = some (.int x) := rfl
          have i1 : dIdx (eO (some ((x : Int), (y : Int)))) (.int 1) = some (.int y) := rfl
          have c1 : dSlc (.tuple (eSs s)) (some ((s.length : Int) - x)) none = some (.tuple (eSs (s.drop (s.length - x)))) := by
            have e2 : ((s.length - x : Nat) : Int) = (s.length : Int) - x := by omega
            show some (PyData.tuple (cutL (eSs s) _ none)) = _
            rw [← e2, cut_from _ _ (by rw [len_ss]; omega), drop_ss]
          have c2 : dSlc (.tuple (eSs d)) none (some (y : Int)) = some (.tuple (eSs (d.take y))) := by
            show some (PyData.tuple (cutL (eSs d) none _)) = _
            rw [cut_to _ _ (by rw [len_ss]; exact hy1), take_ss]
          have zb : (.tuple [.str "zebra"] : D) = .tuple (eSs [("zebra" : Str)]) := rfl
          have lz := g1.len
          have tt : ∀ u v : W, u.length + v.length ≤ 100 → dAdd (.tuple (eSs u)) (.tuple (eSs v)) = some (.tuple (eSs (u ++ v))) := fun u v h => by
            show (if fit ((eSs u).length + (eSs v).length) = true then some (PyData.tuple (eSs u ++ eSs v)) else none) = _
            rw [if_pos (show fit ((eSs u).length + (eSs v).length) = true from decide_eq_true (by rw [len_ss, len_ss]; omega)), app_ss]
          have t1 := tt (s.drop (s.length - x)) (d.take y) (by rw [List.length_drop, List.length_take]; omega)
          have t2 := tt (s.drop (s.length - x) ++ d.take y) [("zebra" : Str)] (by rw [List.length_append, List.length_drop, List.length_take, List.length_singleton]; omega)
          have so := sorted_tup (s.drop (s.length - x) ++ d.take y ++ [("zebra" : Str)])
          have l1 := law_left (k := k - 1) (by omega) s d (ask s d x y) (ansOf xs[t]) (.tuple (eSs (ask s d x y))) (fun w => in_tup w _) (by omega) (by omega)
          have l2 := left_by_answer (k := k - 1) (by omega) s d (ask s d x y) (ansOf xs[t]) (.tuple (eSs (ask s d x y))) (fun w => in_tup w _) (by omega) (by omega)
          have lo := lft_ok s d (ask s d x y) (ansOf xs[t]) (by omega) (by omega)
          have l3 := law_is (k - 1) (lftD s d (ask s d x y) (ansOf xs[t])) lo.1 (by rw [lo.2]; omega)
          have md : dMod (.int xs[t]) (.int 2) = some (.int (xs[t].fmod 2)) := dMod_ii _ _ (by omega)
          have an : decide (xs[t].fmod 2 = 0) = ansOf xs[t] := rfl
          have ns := next_state g1 x y hx1 hy1 (ansOf xs[t])
          refine ⟨[some (false, .tuple (eSs (kept s (ask s d x y) (ansOf xs[t])))), some (false, .tuple (eSs (srt (oths s d (ask s d x y) (ansOf xs[t]))))), some (false, .list (xs.map .int)), some (false, .list (lvs 10)), some (false, .int m), some (false, .int t), some (false, .int n), some (false, eO (some ((x : Int), (y : Int)))), some (false, .tuple (eSs (ask s d x y))), some (false, .bool (ansOf xs[t])), some (false, lftD s d (ask s d x y) (ansOf xs[t]))], (kept s (ask s d x y) (ansOf xs[t]), srt (oths s d (ask s d x y) (ansOf xs[t]))), rfl, ?_, by simp -implicitDefEqProofs -dsimp [e_var, e_int, e_str, e_bl, e_non, e_glb, e_bin, e_cmp, e_chain, e_neg, e_not, e_and, e_or, e_one, e_ite, e_tup, e_lst, e_dic, e_idx, e_dget, e_slc, e_get1, e_get2, e_call, e_bi, e_isa, e_comp, e_comp2, e_dcomp, es_nil, es_cons, eo_no, eo_yes, ec_no, ec_yes, ei_seq, ei_rng1, ei_rng2, s_asg, s_aug, s_setL, s_setD, s_app, s_ext, s_pop, s_ite, s_for_, s_wh, s_ret, s_retN, s_brk, s_cnt, s_pas, ss_nil, ss_cons, sq_nx, sq_rt, sq_bk, sq_ct, rn_nx, rn_rt, evAsg, startG, putNm, giveUp, Dl.at_non, Dl.at_bl, Dl.at_int, Dl.at_str, Dl.at_lst, Dl.at_tup, Dl.at_dic, Dl.mt_non, Dl.mt_bl, Dl.mt_int, Dl.mt_str, Dl.mt_lst, Dl.mt_tup, Dl.mt_dic, fre, esc, escs, esci, getG, asI, asB, dTru, dNot, dNeg, BOp.fo, COp.fo, Bi.fo, onOwn, evApp, evExt, evSetL, evSetD, evAug, AOp.fo, dApp, dExt, dTuple, dList, dInt, dAbs, dLen, dItems, killG, unown, offG, Tg.put, setAll, blkG, wipeG, stepC, stepF, stepD, vAnd, vOr, vChain], ns.1, ?_, fun t ht => g3 t (by simp [ht])⟩
          · have so' : dSorted [.tuple (eSs (s.drop (s.length - x) ++ d.take y ++ [("zebra" : Str)]))] = some (.list (eSs (ask s d x y))) := so
            rw [← zb, List.append_assoc] at t2
            rw [List.append_assoc] at so'
            simp only [lftD] at l1 l2 l3
            simp only [eO, eII] at p2 p3 p4 i0 i1
            simp -implicitDefEqProofs -dsimp [B1__law_search, e_var, e_int, e_str, e_bl, e_non, e_glb, e_bin, e_cmp, e_chain, e_neg, e_not, e_and, e_or, e_one, e_ite, e_tup, e_lst, e_dic, e_idx, e_dget, e_slc, e_get1, e_get2, e_call, e_bi, e_isa, e_comp, e_comp2, e_dcomp, es_nil, es_cons, eo_no, eo_yes, ec_no, ec_yes, ei_seq, ei_rng1, ei_rng2, s_asg, s_aug, s_setL, s_setD, s_app, s_ext, s_pop, s_ite, s_for_, s_wh, s_ret, s_retN, s_brk, s_cnt, s_pas, ss_nil, ss_cons, sq_nx, sq_rt, sq_bk, sq_ct, rn_nx, rn_rt, evAsg, startG, putNm, giveUp, Dl.at_non, Dl.at_bl, Dl.at_int, Dl.at_str, Dl.at_lst, Dl.at_tup, Dl.at_dic, Dl.mt_non, Dl.mt_bl, Dl.mt_int, Dl.mt_str, Dl.mt_lst, Dl.mt_tup, Dl.mt_dic, fre, esc, escs, esci, getG, asI, asB, dTru, dNot, dNeg, BOp.fo, COp.fo, Bi.fo, onOwn, evApp, evExt, evSetL, evSetD, evAug, AOp.fo, dApp, dExt, dTuple, dList, dInt, dAbs, dLen, dItems, killG, unown, offG, Tg.put, setAll, blkG, wipeG, stepC, stepF, stepD, vAnd, vOr, vChain, len_ss, e', p1, p2, p3, p4, il, i0, i1, c1, c2, t1, t2, so', id, md, an, l1, l2, l3, lftD, eO, eII, fit, Bi.fr]
          · simp only
            rw [ns.2.1, ns.2.2]
            unfold cL at hc
            simp only [Bool.and_eq_true] at hc
            refine Lv_le (show n - 1 ≤ ts.length by omega) ?_
            cases ansOf xs[t] with
            | true =>
              have e4 : (s.length : Int) - x + y = ((s.length - x + y : Nat) : Int) := by omega
              rw [e4] at hc
              simpa using hc.1
            | false =>
              have e3 : (s.length : Int) - x = ((s.length - x : Nat) : Int) := by omega
              have e5 : (x : Int) + d.length - y = ((x + (d.length - y) : Nat) : Int) := by omega
              rw [e5, e3] at hc
              simpa using hc.2)
      (List.range m) (s, d) ⟨g, by rw [List.length_range]; exact h1, fun t ht => by rw [List.mem_range] at ht; omega⟩
    exact ⟨z, e, g1, g2⟩
  obtain ⟨z, L, g1, g2⟩ := lp
  have fin : (z.1.length : Int) + z.2.length ≤ 1 := of_decide_eq_true g2
  simp -implicitDefEqProofs -dsimp [F__law_search, b__law_search, e_var, e_int, e_str, e_bl, e_non, e_glb, e_bin, e_cmp, e_chain, e_neg, e_not, e_and, e_or, e_one, e_ite, e_tup, e_lst, e_dic, e_idx, e_dget, e_slc, e_get1, e_get2, e_call, e_bi, e_isa, e_comp, e_comp2, e_dcomp, es_nil, es_cons, eo_no, eo_yes, ec_no, ec_yes, ei_seq, ei_rng1, ei_rng2, s_asg, s_aug, s_setL, s_setD, s_app, s_ext, s_pop, s_ite, s_for_, s_wh, s_ret, s_retN, s_brk, s_cnt, s_pas, ss_nil, ss_cons, sq_nx, sq_rt, sq_bk, sq_ct, rn_nx, rn_rt, evAsg, startG, putNm, giveUp, Dl.at_non, Dl.at_bl, Dl.at_int, Dl.at_str, Dl.at_lst, Dl.at_tup, Dl.at_dic, Dl.mt_non, Dl.mt_bl, Dl.mt_int, Dl.mt_str, Dl.mt_lst, Dl.mt_tup, Dl.mt_dic, fre, esc, escs, esci, getG, asI, asB, dTru, dNot, dNeg, BOp.fo, COp.fo, Bi.fo, onOwn, evApp, evExt, evSetL, evSetD, evAug, AOp.fo, dApp, dExt, dTuple, dList, dInt, dAbs, dLen, dItems, killG, unown, offG, Tg.put, setAll, blkG, wipeG, stepC, stepF, stepD, vAnd, vOr, vChain, len_ss, q1, L, fin]
end K47

set_option Elab.async false
set_option linter.all false
set_option maxRecDepth 100000
set_option maxHeartbeats 2000000
namespace K47
open Dl PySem
open L2 (atI ixN)
theorem at_ints (xs : List Int) (t : Nat) (h : t < xs.length) : dIdx (.list (xs.map .int)) (.int t) = some (.int xs[t]) := by
  show atI (xs.map PyData.int) (t : Int) = _
  rw [atI_nat _ _ (by rw [List.length_map]; exact h)]
  simp
theorem ask_words (Φ : Fs) (s d ws : W) (xs : List Int) (t : Nat) (n : Int) (hw : ws.length ≤ 100) : ∃ (n' : Int) (q : W), evS G Φ L1__law_answers [some (false, .tuple (eSs s)), some (false, .tuple (eSs d)), some (false, .tuple (eSs ws)), some (false, .list (xs.map .int)), some (false, .int t), some (false, .int n), some (true, .list (eSs [])), none, none, none] = some (.nx [some (false, .tuple (eSs s)), some (false, .tuple (eSs d)), some (false, .tuple (eSs ws)), some (false, .list (xs.map .int)), some (false, .int t), some (false, .int n'), some (true, .list (eSs q)), none, none, none]) := by
  have zb : (.tuple [.str "zebra"] : D) = .tuple (eSs [("zebra" : Str)]) := rfl
  have tt : dAdd (.tuple (eSs ws)) (.tuple [.str "zebra"]) = some (.tuple (eSs (ws ++ [("zebra" : Str)]))) := by
    rw [zb]
    show (if fit ((eSs ws).length + (eSs [("zebra" : Str)]).length) = true then some (PyData.tuple (eSs ws ++ eSs [("zebra" : Str)])) else none) = _
    rw [if_pos (show fit ((eSs ws).length + (eSs [("zebra" : Str)]).length) = true from decide_eq_true (by rw [len_ss, len_ss, List.length_singleton]; omega)), app_ss]
  unfold L1__law_answers
  rw [for_seq (d := .tuple (eSs (ws ++ [("zebra" : Str)]))) (ds := eSs (ws ++ [("zebra" : Str)])) (by simp -implicitDefEqProofs -dsimp [e_var, e_int, e_str, e_bl, e_non, e_glb, e_bin, e_cmp, e_chain, e_neg, e_not, e_and, e_or, e_one, e_ite, e_tup, e_lst, e_dic, e_idx, e_dget, e_slc, e_get1, e_get2, e_call, e_bi, e_isa, e_comp, e_comp2, e_dcomp, es_nil, es_cons, eo_no, eo_yes, ec_no, ec_yes, ei_seq, ei_rng1, ei_rng2, s_asg, s_aug, s_setL, s_setD, s_app, s_ext, s_pop, s_ite, s_for_, s_wh, s_ret, s_retN, s_brk, s_cnt, s_pas, ss_nil, ss_cons, sq_nx, sq_rt, sq_bk, sq_ct, rn_nx, rn_rt, evAsg, startG, putNm, giveUp, Dl.at_non, Dl.at_bl, Dl.at_int, Dl.at_str, Dl.at_lst, Dl.at_tup, Dl.at_dic, Dl.mt_non, Dl.mt_bl, Dl.mt_int, Dl.mt_str, Dl.mt_lst, Dl.mt_tup, Dl.mt_dic, fre, esc, escs, esci, getG, asI, asB, dTru, dNot, dNeg, BOp.fo, COp.fo, Bi.fo, onOwn, evApp, evExt, evSetL, evSetD, evAug, AOp.fo, dApp, dExt, dTuple, dList, dInt, dAbs, dLen, dItems, killG, unown, offG, Tg.put, setAll, blkG, wipeG, stepC, stepF, stepD, vAnd, vOr, vChain, tt, fit]) rfl]
  obtain ⟨z, e, _⟩ := evFor_inv (S := Int × W) (t := .nm 7) (body := evSs G Φ B1__law_answers) (kl := [7]) PyData.str (fun z => [some (false, .tuple (eSs s)), some (false, .tuple (eSs d)), some (false, .tuple (eSs ws)), some (false, .list (xs.map .int)), some (false, .int t), some (false, .int z.1), some (true, .list (eSs z.2)), none, none, none]) (fun us z => z.2.length + us.length ≤ 1000) (fun w us z hz => by
    rw [List.length_cons] at hz
    have z2 : (eSs z.2).length < 16777216 := by rw [len_ss]; omega
    have a2 : eSs z.2 ++ [PyData.str w] = eSs (z.2 ++ [w]) := app_ss z.2 [w]
    have md : dMod (.int z.1) (.int 2) = some (.int (z.1.fmod 2)) := dMod_ii _ _ (by omega)
    have dv : dDiv (.int z.1) (.int 2) = some (.int (z.1.fdiv 2)) := dDiv_ii _ _ ⟨by omega, by decide⟩
    by_cases h : z.1.fmod 2 = 1
    · exact ⟨[some (false, .tuple (eSs s)), some (false, .tuple (eSs d)), some (false, .tuple (eSs ws)), some (false, .list (xs.map .int)), some (false, .int t), some (false, .int z.1), some (true, .list (eSs z.2)), some (false, .str w), none, none], [some (false, .tuple (eSs s)), some (false, .tuple (eSs d)), some (false, .tuple (eSs ws)), some (false, .list (xs.map .int)), some (false, .int t), some (false, .int (z.1.fdiv 2)), some (true, .list (eSs (z.2 ++ [w]))), some (false, .str w), none, none], (z.1.fdiv 2, z.2 ++ [w]), rfl, by simp -implicitDefEqProofs -dsimp [B1__law_answers, e_var, e_int, e_str, e_bl, e_non, e_glb, e_bin, e_cmp, e_chain, e_neg, e_not, e_and, e_or, e_one, e_ite, e_tup, e_lst, e_dic, e_idx, e_dget, e_slc, e_get1, e_get2, e_call, e_bi, e_isa, e_comp, e_comp2, e_dcomp, es_nil, es_cons, eo_no, eo_yes, ec_no, ec_yes, ei_seq, ei_rng1, ei_rng2, s_asg, s_aug, s_setL, s_setD, s_app, s_ext, s_pop, s_ite, s_for_, s_wh, s_ret, s_retN, s_brk, s_cnt, s_pas, ss_nil, ss_cons, sq_nx, sq_rt, sq_bk, sq_ct, rn_nx, rn_rt, evAsg, startG, putNm, giveUp, Dl.at_non, Dl.at_bl, Dl.at_int, Dl.at_str, Dl.at_lst, Dl.at_tup, Dl.at_dic, Dl.mt_non, Dl.mt_bl, Dl.mt_int, Dl.mt_str, Dl.mt_lst, Dl.mt_tup, Dl.mt_dic, fre, esc, escs, esci, getG, asI, asB, dTru, dNot, dNeg, BOp.fo, COp.fo, Bi.fo, onOwn, evApp, evExt, evSetL, evSetD, evAug, AOp.fo, dApp, dExt, dTuple, dList, dInt, dAbs, dLen, dItems, killG, unown, offG, Tg.put, setAll, blkG, wipeG, stepC, stepF, stepD, vAnd, vOr, vChain, md, dv, h, z2, a2], by simp -implicitDefEqProofs -dsimp [e_var, e_int, e_str, e_bl, e_non, e_glb, e_bin, e_cmp, e_chain, e_neg, e_not, e_and, e_or, e_one, e_ite, e_tup, e_lst, e_dic, e_idx, e_dget, e_slc, e_get1, e_get2, e_call, e_bi, e_isa, e_comp, e_comp2, e_dcomp, es_nil, es_cons, eo_no, eo_yes, ec_no, ec_yes, ei_seq, ei_rng1, ei_rng2, s_asg, s_aug, s_setL, s_setD, s_app, s_ext, s_pop, s_ite, s_for_, s_wh, s_ret, s_retN, s_brk, s_cnt, s_pas, ss_nil, ss_cons, sq_nx, sq_rt, sq_bk, sq_ct, rn_nx, rn_rt, evAsg, startG, putNm, giveUp, Dl.at_non, Dl.at_bl, Dl.at_int, Dl.at_str, Dl.at_lst, Dl.at_tup, Dl.at_dic, Dl.mt_non, Dl.mt_bl, Dl.mt_int, Dl.mt_str, Dl.mt_lst, Dl.mt_tup, Dl.mt_dic, fre, esc, escs, esci, getG, asI, asB, dTru, dNot, dNeg, BOp.fo, COp.fo, Bi.fo, onOwn, evApp, evExt, evSetL, evSetD, evAug, AOp.fo, dApp, dExt, dTuple, dList, dInt, dAbs, dLen, dItems, killG, unown, offG, Tg.put, setAll, blkG, wipeG, stepC, stepF, stepD, vAnd, vOr, vChain], by simp; omega⟩
    · exact ⟨[some (false, .tuple (eSs s)), some (false, .tuple (eSs d)), some (false, .tuple (eSs ws)), some (false, .list (xs.map .int)), some (false, .int t), some (false, .int z.1), some (true, .list (eSs z.2)), some (false, .str w), none, none], [some (false, .tuple (eSs s)), some (false, .tuple (eSs d)), some (false, .tuple (eSs ws)), some (false, .list (xs.map .int)), some (false, .int t), some (false, .int (z.1.fdiv 2)), some (true, .list (eSs z.2)), some (false, .str w), none, none], (z.1.fdiv 2, z.2), rfl, by simp -implicitDefEqProofs -dsimp [B1__law_answers, e_var, e_int, e_str, e_bl, e_non, e_glb, e_bin, e_cmp, e_chain, e_neg, e_not, e_and, e_or, e_one, e_ite, e_tup, e_lst, e_dic, e_idx, e_dget, e_slc, e_get1, e_get2, e_call, e_bi, e_isa, e_comp, e_comp2, e_dcomp, es_nil, es_cons, eo_no, eo_yes, ec_no, ec_yes, ei_seq, ei_rng1, ei_rng2, s_asg, s_aug, s_setL, s_setD, s_app, s_ext, s_pop, s_ite, s_for_, s_wh, s_ret, s_retN, s_brk, s_cnt, s_pas, ss_nil, ss_cons, sq_nx, sq_rt, sq_bk, sq_ct, rn_nx, rn_rt, evAsg, startG, putNm, giveUp, Dl.at_non, Dl.at_bl, Dl.at_int, Dl.at_str, Dl.at_lst, Dl.at_tup, Dl.at_dic, Dl.mt_non, Dl.mt_bl, Dl.mt_int, Dl.mt_str, Dl.mt_lst, Dl.mt_tup, Dl.mt_dic, fre, esc, escs, esci, getG, asI, asB, dTru, dNot, dNeg, BOp.fo, COp.fo, Bi.fo, onOwn, evApp, evExt, evSetL, evSetD, evAug, AOp.fo, dApp, dExt, dTuple, dList, dInt, dAbs, dLen, dItems, killG, unown, offG, Tg.put, setAll, blkG, wipeG, stepC, stepF, stepD, vAnd, vOr, vChain, md, dv, h], by simp -implicitDefEqProofs -dsimp [e_var, e_int, e_str, e_bl, e_non, e_glb, e_bin, e_cmp, e_chain, e_neg, e_not, e_and, e_or, e_one, e_ite, e_tup, e_lst, e_dic, e_idx, e_dget, e_slc, e_get1, e_get2, e_call, e_bi, e_isa, e_comp, e_comp2, e_dcomp, es_nil, es_cons, eo_no, eo_yes, ec_no, ec_yes, ei_seq, ei_rng1, ei_rng2, s_asg, s_aug, s_setL, s_setD, s_app, s_ext, s_pop, s_ite, s_for_, s_wh, s_ret, s_retN, s_brk, s_cnt, s_pas, ss_nil, ss_cons, sq_nx, sq_rt, sq_bk, sq_ct, rn_nx, rn_rt, evAsg, startG, putNm, giveUp, Dl.at_non, Dl.at_bl, Dl.at_int, Dl.at_str, Dl.at_lst, Dl.at_tup, Dl.at_dic, Dl.mt_non, Dl.mt_bl, Dl.mt_int, Dl.mt_str, Dl.mt_lst, Dl.mt_tup, Dl.mt_dic, fre, esc, escs, esci, getG, asI, asB, dTru, dNot, dNeg, BOp.fo, COp.fo, Bi.fo, onOwn, evApp, evExt, evSetL, evSetD, evAug, AOp.fo, dApp, dExt, dTuple, dList, dInt, dAbs, dLen, dItems, killG, unown, offG, Tg.put, setAll, blkG, wipeG, stepC, stepF, stepD, vAnd, vOr, vChain], by simp; omega⟩)
    (ws ++ [("zebra" : Str)]) (n, []) (by simp; omega)
  refine ⟨z.1, z.2, Eq.trans ?_ e⟩
  congr 1
theorem answers {k : Nat} (hk : 8 ≤ k) (s d ws : W) (hs : s.length ≤ 1000) (hd : d.length ≤ 1000) (hw : ws.length ≤ 100) (xs : List Int) (hx : 4 ≤ xs.length) : den G Pf k 18 [.tuple (eSs s), .tuple (eSs d), .tuple (eSs ws), .list (xs.map .int)] = some (.bool true) := by
  rw [den_eq (fd := F__law_answers) (by omega) rfl rfl]
  have M : ∀ (t : Nat) (n : Int) (q : W), ∃ f : Bool, evS G (den G Pf (k - 1)) L2__law_answers [some (false, .tuple (eSs s)), some (false, .tuple (eSs d)), some (false, .tuple (eSs ws)), some (false, .list (xs.map .int)), some (false, .int t), some (false, .int n), some (true, .list (eSs q)), none, none, none] = some (.nx [some (false, .tuple (eSs s)), some (false, .tuple (eSs d)), some (false, .tuple (eSs ws)), some (false, .list (xs.map .int)), some (false, .int t), some (false, .int n), some (f, .list (eSs q)), none, none, none]) := by
    intro t n q
    unfold L2__law_answers
    rw [for_seq (d := .tuple ([true, false].map .bool)) (ds := [true, false].map .bool) (by simp -implicitDefEqProofs -dsimp [e_var, e_int, e_str, e_bl, e_non, e_glb, e_bin, e_cmp, e_chain, e_neg, e_not, e_and, e_or, e_one, e_ite, e_tup, e_lst, e_dic, e_idx, e_dget, e_slc, e_get1, e_get2, e_call, e_bi, e_isa, e_comp, e_comp2, e_dcomp, es_nil, es_cons, eo_no, eo_yes, ec_no, ec_yes, ei_seq, ei_rng1, ei_rng2, s_asg, s_aug, s_setL, s_setD, s_app, s_ext, s_pop, s_ite, s_for_, s_wh, s_ret, s_retN, s_brk, s_cnt, s_pas, ss_nil, ss_cons, sq_nx, sq_rt, sq_bk, sq_ct, rn_nx, rn_rt, evAsg, startG, putNm, giveUp, Dl.at_non, Dl.at_bl, Dl.at_int, Dl.at_str, Dl.at_lst, Dl.at_tup, Dl.at_dic, Dl.mt_non, Dl.mt_bl, Dl.mt_int, Dl.mt_str, Dl.mt_lst, Dl.mt_tup, Dl.mt_dic, fre, esc, escs, esci, getG, asI, asB, dTru, dNot, dNeg, BOp.fo, COp.fo, Bi.fo, onOwn, evApp, evExt, evSetL, evSetD, evAug, AOp.fo, dApp, dExt, dTuple, dList, dInt, dAbs, dLen, dItems, killG, unown, offG, Tg.put, setAll, blkG, wipeG, stepC, stepF, stepD, vAnd, vOr, vChain, fit]) rfl]
    obtain ⟨f, e, _⟩ := evFor_inv (S := Bool) (t := .nm 8) (body := evSs G (den G Pf (k - 1)) B2__law_answers) (kl := [8, 9]) PyData.bool (fun f => [some (false, .tuple (eSs s)), some (false, .tuple (eSs d)), some (false, .tuple (eSs ws)), some (false, .list (xs.map .int)), some (false, .int t), some (false, .int n), some (f, .list (eSs q)), none, none, none]) (fun _ _ => True) (fun ans _ f _ => by
      have l1 := law_left (k := k - 1) (by omega) s d q ans (.list (eSs q)) (fun w => in_lst w _) hs hd
      have l2 := left_by_answer (k := k - 1) (by omega) s d q ans (.tuple (eSs q)) (fun w => in_tup w _) hs hd
      have lo := lft_ok s d q ans hs hd
      have l3 := law_is (k - 1) (lftD s d q ans) lo.1 (by rw [lo.2]; omega)
      simp only [lftD] at l1 l2 l3
      exact ⟨[some (false, .tuple (eSs s)), some (false, .tuple (eSs d)), some (false, .tuple (eSs ws)), some (false, .list (xs.map .int)), some (false, .int t), some (false, .int n), some (f, .list (eSs q)), none, some (false, .bool ans), none], [some (false, .tuple (eSs s)), some (false, .tuple (eSs d)), some (false, .tuple (eSs ws)), some (false, .list (xs.map .int)), some (false, .int t), some (false, .int n), some (false, .list (eSs q)), none, some (false, .bool ans), some (false, lftD s d q ans)], false, rfl, by simp -implicitDefEqProofs -dsimp [B2__law_answers, e_var, e_int, e_str, e_bl, e_non, e_glb, e_bin, e_cmp, e_chain, e_neg, e_not, e_and, e_or, e_one, e_ite, e_tup, e_lst, e_dic, e_idx, e_dget, e_slc, e_get1, e_get2, e_call, e_bi, e_isa, e_comp, e_comp2, e_dcomp, es_nil, es_cons, eo_no, eo_yes, ec_no, ec_yes, ei_seq, ei_rng1, ei_rng2, s_asg, s_aug, s_setL, s_setD, s_app, s_ext, s_pop, s_ite, s_for_, s_wh, s_ret, s_retN, s_brk, s_cnt, s_pas, ss_nil, ss_cons, sq_nx, sq_rt, sq_bk, sq_ct, rn_nx, rn_rt, evAsg, startG, putNm, giveUp, Dl.at_non, Dl.at_bl, Dl.at_int, Dl.at_str, Dl.at_lst, Dl.at_tup, Dl.at_dic, Dl.mt_non, Dl.mt_bl, Dl.mt_int, Dl.mt_str, Dl.mt_lst, Dl.mt_tup, Dl.mt_dic, fre, esc, escs, esci, getG, asI, asB, dTru, dNot, dNeg, BOp.fo, COp.fo, Bi.fo, onOwn, evApp, evExt, evSetL, evSetD, evAug, AOp.fo, dApp, dExt, dTuple, dList, dInt, dAbs, dLen, dItems, killG, unown, offG, Tg.put, setAll, blkG, wipeG, stepC, stepF, stepD, vAnd, vOr, vChain, l1, l2, l3, lftD], by simp -implicitDefEqProofs -dsimp [e_var, e_int, e_str, e_bl, e_non, e_glb, e_bin, e_cmp, e_chain, e_neg, e_not, e_and, e_or, e_one, e_ite, e_tup, e_lst, e_dic, e_idx, e_dget, e_slc, e_get1, e_get2, e_call, e_bi, e_isa, e_comp, e_comp2, e_dcomp, es_nil, es_cons, eo_no, eo_yes, ec_no, ec_yes, ei_seq, ei_rng1, ei_rng2, s_asg, s_aug, s_setL, s_setD, s_app, s_ext, s_pop, s_ite, s_for_, s_wh, s_ret, s_retN, s_brk, s_cnt, s_pas, ss_nil, ss_cons, sq_nx, sq_rt, sq_bk, sq_ct, rn_nx, rn_rt, evAsg, startG, putNm, giveUp, Dl.at_non, Dl.at_bl, Dl.at_int, Dl.at_str, Dl.at_lst, Dl.at_tup, Dl.at_dic, Dl.mt_non, Dl.mt_bl, Dl.mt_int, Dl.mt_str, Dl.mt_lst, Dl.mt_tup, Dl.mt_dic, fre, esc, escs, esci, getG, asI, asB, dTru, dNot, dNeg, BOp.fo, COp.fo, Bi.fo, onOwn, evApp, evExt, evSetL, evSetD, evAug, AOp.fo, dApp, dExt, dTuple, dList, dInt, dAbs, dLen, dItems, killG, unown, offG, Tg.put, setAll, blkG, wipeG, stepC, stepF, stepD, vAnd, vOr, vChain], trivial⟩)
      [true, false] true trivial
    exact ⟨f, Eq.trans (by congr 1) e⟩
  have L : evS G (den G Pf (k - 1)) L3__law_answers [some (false, .tuple (eSs s)), some (false, .tuple (eSs d)), some (false, .tuple (eSs ws)), some (false, .list (xs.map .int)), none, none, none, none, none, none] = some (.nx [some (false, .tuple (eSs s)), some (false, .tuple (eSs d)), some (false, .tuple (eSs ws)), some (false, .list (xs.map .int)), none, none, none, none, none, none]) := by
    unfold L3__law_answers
    rw [for_rng1 (n := 4) (by simp -implicitDefEqProofs -dsimp [e_var, e_int, e_str, e_bl, e_non, e_glb, e_bin, e_cmp, e_chain, e_neg, e_not, e_and, e_or, e_one, e_ite, e_tup, e_lst, e_dic, e_idx, e_dget, e_slc, e_get1, e_get2, e_call, e_bi, e_isa, e_comp, e_comp2, e_dcomp, es_nil, es_cons, eo_no, eo_yes, ec_no, ec_yes, ei_seq, ei_rng1, ei_rng2, s_asg, s_aug, s_setL, s_setD, s_app, s_ext, s_pop, s_ite, s_for_, s_wh, s_ret, s_retN, s_brk, s_cnt, s_pas, ss_nil, ss_cons, sq_nx, sq_rt, sq_bk, sq_ct, rn_nx, rn_rt, evAsg, startG, putNm, giveUp, Dl.at_non, Dl.at_bl, Dl.at_int, Dl.at_str, Dl.at_lst, Dl.at_tup, Dl.at_dic, Dl.mt_non, Dl.mt_bl, Dl.mt_int, Dl.mt_str, Dl.mt_lst, Dl.mt_tup, Dl.mt_dic, fre, esc, escs, esci, getG, asI, asB, dTru, dNot, dNeg, BOp.fo, COp.fo, Bi.fo, onOwn, evApp, evExt, evSetL, evSetD, evAug, AOp.fo, dApp, dExt, dTuple, dList, dInt, dAbs, dLen, dItems, killG, unown, offG, Tg.put, setAll, blkG, wipeG, stepC, stepF, stepD, vAnd, vOr, vChain]) (by omega)]
    obtain ⟨_, e, _⟩ := evFor_inv (S := Unit) (t := .nm 4) (body := evSs G (den G Pf (k - 1)) B3__law_answers) (kl := [4, 5, 6, 7, 8, 9]) (fun i : Nat => PyData.int i) (fun _ => [some (false, .tuple (eSs s)), some (false, .tuple (eSs d)), some (false, .tuple (eSs ws)), some (false, .list (xs.map .int)), none, none, none, none, none, none]) (fun ts _ => ∀ t ∈ ts, t < 4) (fun t ts _ ht => by
      have h4 := ht t (by simp)
      have id := at_ints xs t (by omega)
      have ml : dMul (.int xs[t]) (.int 7) = some (.int (xs[t] * 7)) := dMul_ii _ _ (.inr ⟨by omega, by omega⟩)
      obtain ⟨n', q, e1⟩ := ask_words (den G Pf (k - 1)) s d ws xs t (xs[t] * 7 + t) hw
      obtain ⟨f, e2⟩ := M t n' q
      have e1' : evS G (den G Pf (k - 1)) L1__law_answers [some (false, .tuple (eSs s)), some (false, .tuple (eSs d)), some (false, .tuple (eSs ws)), some (false, .list (xs.map .int)), some (false, .int t), some (false, .int (xs[t] * 7 + t)), some (true, .list []), none, none, none] = _ := e1
      exact ⟨[some (false, .tuple (eSs s)), some (false, .tuple (eSs d)), some (false, .tuple (eSs ws)), some (false, .list (xs.map .int)), some (false, .int t), none, none, none, none, none], [some (false, .tuple (eSs s)), some (false, .tuple (eSs d)), some (false, .tuple (eSs ws)), some (false, .list (xs.map .int)), some (false, .int t), some (false, .int n'), some (f, .list (eSs q)), none, none, none], (), rfl, by simp -implicitDefEqProofs -dsimp [B3__law_answers, e_var, e_int, e_str, e_bl, e_non, e_glb, e_bin, e_cmp, e_chain, e_neg, e_not, e_and, e_or, e_one, e_ite, e_tup, e_lst, e_dic, e_idx, e_dget, e_slc, e_get1, e_get2, e_call, e_bi, e_isa, e_comp, e_comp2, e_dcomp, es_nil, es_cons, eo_no, eo_yes, ec_no, ec_yes, ei_seq, ei_rng1, ei_rng2, s_asg, s_aug, s_setL, s_setD, s_app, s_ext, s_pop, s_ite, s_for_, s_wh, s_ret, s_retN, s_brk, s_cnt, s_pas, ss_nil, ss_cons, sq_nx, sq_rt, sq_bk, sq_ct, rn_nx, rn_rt, evAsg, startG, putNm, giveUp, Dl.at_non, Dl.at_bl, Dl.at_int, Dl.at_str, Dl.at_lst, Dl.at_tup, Dl.at_dic, Dl.mt_non, Dl.mt_bl, Dl.mt_int, Dl.mt_str, Dl.mt_lst, Dl.mt_tup, Dl.mt_dic, fre, esc, escs, esci, getG, asI, asB, dTru, dNot, dNeg, BOp.fo, COp.fo, Bi.fo, onOwn, evApp, evExt, evSetL, evSetD, evAug, AOp.fo, dApp, dExt, dTuple, dList, dInt, dAbs, dLen, dItems, killG, unown, offG, Tg.put, setAll, blkG, wipeG, stepC, stepF, stepD, vAnd, vOr, vChain, id, ml, e1', e2, fit], by simp -implicitDefEqProofs -dsimp [e_var, e_int, e_str, e_bl, e_non, e_glb, e_bin, e_cmp, e_chain, e_neg, e_not, e_and, e_or, e_one, e_ite, e_tup, e_lst, e_dic, e_idx, e_dget, e_slc, e_get1, e_get2, e_call, e_bi, e_isa, e_comp, e_comp2, e_dcomp, es_nil, es_cons, eo_no, eo_yes, ec_no, ec_yes, ei_seq, ei_rng1, ei_rng2, s_asg, s_aug, s_setL, s_setD, s_app, s_ext, s_pop, s_ite, s_for_, s_wh, s_ret, s_retN, s_brk, s_cnt, s_pas, ss_nil, ss_cons, sq_nx, sq_rt, sq_bk, sq_ct, rn_nx, rn_rt, evAsg, startG, putNm, giveUp, Dl.at_non, Dl.at_bl, Dl.at_int, Dl.at_str, Dl.at_lst, Dl.at_tup, Dl.at_dic, Dl.mt_non, Dl.mt_bl, Dl.mt_int, Dl.mt_str, Dl.mt_lst, Dl.mt_tup, Dl.mt_dic, fre, esc, escs, esci, getG, asI, asB, dTru, dNot, dNeg, BOp.fo, COp.fo, Bi.fo, onOwn, evApp, evExt, evSetL, evSetD, evAug, AOp.fo, dApp, dExt, dTuple, dList, dInt, dAbs, dLen, dItems, killG, unown, offG, Tg.put, setAll, blkG, wipeG, stepC, stepF, stepD, vAnd, vOr, vChain], fun t ht' => ht t (by simp [ht'])⟩)
      (List.range 4) () (fun t ht => List.mem_range.mp ht)
    exact e
  simp -implicitDefEqProofs -dsimp [F__law_answers, b__law_answers, e_var, e_int, e_str, e_bl, e_non, e_glb, e_bin, e_cmp, e_chain, e_neg, e_not, e_and, e_or, e_one, e_ite, e_tup, e_lst, e_dic, e_idx, e_dget, e_slc, e_get1, e_get2, e_call, e_bi, e_isa, e_comp, e_comp2, e_dcomp, es_nil, es_cons, eo_no, eo_yes, ec_no, ec_yes, ei_seq, ei_rng1, ei_rng2, s_asg, s_aug, s_setL, s_setD, s_app, s_ext, s_pop, s_ite, s_for_, s_wh, s_ret, s_retN, s_brk, s_cnt, s_pas, ss_nil, ss_cons, sq_nx, sq_rt, sq_bk, sq_ct, rn_nx, rn_rt, evAsg, startG, putNm, giveUp, Dl.at_non, Dl.at_bl, Dl.at_int, Dl.at_str, Dl.at_lst, Dl.at_tup, Dl.at_dic, Dl.mt_non, Dl.mt_bl, Dl.mt_int, Dl.mt_str, Dl.mt_lst, Dl.mt_tup, Dl.mt_dic, fre, esc, escs, esci, getG, asI, asB, dTru, dNot, dNeg, BOp.fo, COp.fo, Bi.fo, onOwn, evApp, evExt, evSetL, evSetD, evAug, AOp.fo, dApp, dExt, dTuple, dList, dInt, dAbs, dLen, dItems, killG, unown, offG, Tg.put, setAll, blkG, wipeG, stepC, stepF, stepD, vAnd, vOr, vChain, L]
/-! ### draws -/
theorem cell_int {k : Nat} (hk : 1 ≤ k) (ns : List Int) (i : Nat) : ∃ c : Int, den G Pf k 7 [.list (ns.map .int), .int i] = some (.int c) := by
  rw [den_eq (fd := F__law_cell) hk rfl rfl]
  by_cases h : i < ns.length
  · have id := at_ints ns i h
    have h' : (i : Int) < ns.length := by omega
    exact ⟨ns[i], by simp -implicitDefEqProofs -dsimp [F__law_cell, b__law_cell, e_var, e_int, e_str, e_bl, e_non, e_glb, e_bin, e_cmp, e_chain, e_neg, e_not, e_and, e_or, e_one, e_ite, e_tup, e_lst, e_dic, e_idx, e_dget, e_slc, e_get1, e_get2, e_call, e_bi, e_isa, e_comp, e_comp2, e_dcomp, es_nil, es_cons, eo_no, eo_yes, ec_no, ec_yes, ei_seq, ei_rng1, ei_rng2, s_asg, s_aug, s_setL, s_setD, s_app, s_ext, s_pop, s_ite, s_for_, s_wh, s_ret, s_retN, s_brk, s_cnt, s_pas, ss_nil, ss_cons, sq_nx, sq_rt, sq_bk, sq_ct, rn_nx, rn_rt, evAsg, startG, putNm, giveUp, Dl.at_non, Dl.at_bl, Dl.at_int, Dl.at_str, Dl.at_lst, Dl.at_tup, Dl.at_dic, Dl.mt_non, Dl.mt_bl, Dl.mt_int, Dl.mt_str, Dl.mt_lst, Dl.mt_tup, Dl.mt_dic, fre, esc, escs, esci, getG, asI, asB, dTru, dNot, dNeg, BOp.fo, COp.fo, Bi.fo, onOwn, evApp, evExt, evSetL, evSetD, evAug, AOp.fo, dApp, dExt, dTuple, dList, dInt, dAbs, dLen, dItems, killG, unown, offG, Tg.put, setAll, blkG, wipeG, stepC, stepF, stepD, vAnd, vOr, vChain, h', h, id]⟩
  · have h' : ¬ (i : Int) < ns.length := by omega
    have ml : dMul (.int 5) (.int i) = some (.int (5 * i)) := dMul_ii _ _ (.inl ⟨by omega, by omega⟩)
    exact ⟨5 * i + 3, by simp -implicitDefEqProofs -dsimp [F__law_cell, b__law_cell, e_var, e_int, e_str, e_bl, e_non, e_glb, e_bin, e_cmp, e_chain, e_neg, e_not, e_and, e_or, e_one, e_ite, e_tup, e_lst, e_dic, e_idx, e_dget, e_slc, e_get1, e_get2, e_call, e_bi, e_isa, e_comp, e_comp2, e_dcomp, es_nil, es_cons, eo_no, eo_yes, ec_no, ec_yes, ei_seq, ei_rng1, ei_rng2, s_asg, s_aug, s_setL, s_setD, s_app, s_ext, s_pop, s_ite, s_for_, s_wh, s_ret, s_retN, s_brk, s_cnt, s_pas, ss_nil, ss_cons, sq_nx, sq_rt, sq_bk, sq_ct, rn_nx, rn_rt, evAsg, startG, putNm, giveUp, Dl.at_non, Dl.at_bl, Dl.at_int, Dl.at_str, Dl.at_lst, Dl.at_tup, Dl.at_dic, Dl.mt_non, Dl.mt_bl, Dl.mt_int, Dl.mt_str, Dl.mt_lst, Dl.mt_tup, Dl.mt_dic, fre, esc, escs, esci, getG, asI, asB, dTru, dNot, dNeg, BOp.fo, COp.fo, Bi.fo, onOwn, evApp, evExt, evSetL, evSetD, evAug, AOp.fo, dApp, dExt, dTuple, dList, dInt, dAbs, dLen, dItems, killG, unown, offG, Tg.put, setAll, blkG, wipeG, stepC, stepF, stepD, vAnd, vOr, vChain, h', h, ml]⟩
end K47

set_option Elab.async false
set_option linter.all false
set_option maxRecDepth 100000
set_option maxHeartbeats 2000000
namespace K47
open Dl PySem
open L2 (atI ixN)
theorem fm_bd (x m : Int) (h : 0 < m) : 0 ≤ x.fmod m ∧ x.fmod m < m := ⟨Int.fmod_nonneg_of_pos x h, Int.fmod_lt_of_pos x h⟩
theorem draws_int {k : Nat} (hk : 1 ≤ k) (c : Int) (n : Nat) (hn : n ≤ 1000) : ∃ xs : List Int, xs.length = n ∧ den G Pf k 8 [.int c, .int n] = some (.list (xs.map .int)) := by
  rw [den_eq (fd := F__law_draws) hk rfl rfl]
  generalize hr : (if c < 0 then -c else c) = r
  have ab : dAbs [.int c] = some (.int r) := by rw [← hr]; rfl
  have pw : dPow (.int 10) (.int 18) = some (.int 1000000000000000000) := rfl
  generalize hg : decide (1000000000000000000 ≤ r) = g
  have L : ∃ z : Int × List Int, evS G (den G Pf (k - 1)) L1__law_draws [some (false, .int c), some (false, .int n), some (false, .int r), some (false, .bool g), some (false, .int r), some (true, .list (([] : List Int).map .int)), none, none] = some (.nx [some (false, .int c), some (false, .int n), some (false, .int z.1), some (false, .bool g), some (false, .int r), some (true, .list (z.2.map .int)), none, none]) ∧ z.2.length = n := by
    unfold L1__law_draws
    rw [for_rng1 (n := n) (by simp -implicitDefEqProofs -dsimp [e_var, e_int, e_str, e_bl, e_non, e_glb, e_bin, e_cmp, e_chain, e_neg, e_not, e_and, e_or, e_one, e_ite, e_tup, e_lst, e_dic, e_idx, e_dget, e_slc, e_get1, e_get2, e_call, e_bi, e_isa, e_comp, e_comp2, e_dcomp, es_nil, es_cons, eo_no, eo_yes, ec_no, ec_yes, ei_seq, ei_rng1, ei_rng2, s_asg, s_aug, s_setL, s_setD, s_app, s_ext, s_pop, s_ite, s_for_, s_wh, s_ret, s_retN, s_brk, s_cnt, s_pas, ss_nil, ss_cons, sq_nx, sq_rt, sq_bk, sq_ct, rn_nx, rn_rt, evAsg, startG, putNm, giveUp, Dl.at_non, Dl.at_bl, Dl.at_int, Dl.at_str, Dl.at_lst, Dl.at_tup, Dl.at_dic, Dl.mt_non, Dl.mt_bl, Dl.mt_int, Dl.mt_str, Dl.mt_lst, Dl.mt_tup, Dl.mt_dic, fre, esc, escs, esci, getG, asI, asB, dTru, dNot, dNeg, BOp.fo, COp.fo, Bi.fo, onOwn, evApp, evExt, evSetL, evSetD, evAug, AOp.fo, dApp, dExt, dTuple, dList, dInt, dAbs, dLen, dItems, killG, unown, offG, Tg.put, setAll, blkG, wipeG, stepC, stepF, stepD, vAnd, vOr, vChain]) (by omega)]
    obtain ⟨z, e, h⟩ := evFor_inv (S := Int × List Int) (t := .nm 6) (body := evSs G (den G Pf (k - 1)) B1__law_draws) (kl := [6, 7]) (fun i : Nat => PyData.int i) (fun z => [some (false, .int c), some (false, .int n), some (false, .int z.1), some (false, .bool g), some (false, .int r), some (true, .list (z.2.map .int)), none, none]) (fun ts z => z.2.length + ts.length = n) (fun t ts z hz => by
      rw [List.length_cons] at hz
      have zl : z.2.length < 16777216 := by omega
      have ap : ∀ y : Int, z.2.map PyData.int ++ [PyData.int y] = (z.2 ++ [y]).map PyData.int := fun y => by simp
      by_cases hd : g = true ∧ z.1 > 0
      · have m1 : dMod (.int z.1) (.int 5040) = some (.int (z.1.fmod 5040)) := dMod_ii _ _ (by omega)
        have d1 : dDiv (.int z.1) (.int 5040) = some (.int (z.1.fdiv 5040)) := dDiv_ii _ _ ⟨by omega, by decide⟩
        obtain ⟨rfl, h2⟩ := hd
        exact ⟨[some (false, .int c), some (false, .int n), some (false, .int z.1), some (false, .bool true), some (false, .int r), some (true, .list (z.2.map .int)), some (false, .int t), none], [some (false, .int c), some (false, .int n), some (false, .int (z.1.fdiv 5040)), some (false, .bool true), some (false, .int r), some (true, .list ((z.2 ++ [z.1.fmod 5040]).map .int)), some (false, .int t), none], (z.1.fdiv 5040, z.2 ++ [z.1.fmod 5040]), rfl, by simp -implicitDefEqProofs -dsimp [B1__law_draws, e_var, e_int, e_str, e_bl, e_non, e_glb, e_bin, e_cmp, e_chain, e_neg, e_not, e_and, e_or, e_one, e_ite, e_tup, e_lst, e_dic, e_idx, e_dget, e_slc, e_get1, e_get2, e_call, e_bi, e_isa, e_comp, e_comp2, e_dcomp, es_nil, es_cons, eo_no, eo_yes, ec_no, ec_yes, ei_seq, ei_rng1, ei_rng2, s_asg, s_aug, s_setL, s_setD, s_app, s_ext, s_pop, s_ite, s_for_, s_wh, s_ret, s_retN, s_brk, s_cnt, s_pas, ss_nil, ss_cons, sq_nx, sq_rt, sq_bk, sq_ct, rn_nx, rn_rt, evAsg, startG, putNm, giveUp, Dl.at_non, Dl.at_bl, Dl.at_int, Dl.at_str, Dl.at_lst, Dl.at_tup, Dl.at_dic, Dl.mt_non, Dl.mt_bl, Dl.mt_int, Dl.mt_str, Dl.mt_lst, Dl.mt_tup, Dl.mt_dic, fre, esc, escs, esci, getG, asI, asB, dTru, dNot, dNeg, BOp.fo, COp.fo, Bi.fo, onOwn, evApp, evExt, evSetL, evSetD, evAug, AOp.fo, dApp, dExt, dTuple, dList, dInt, dAbs, dLen, dItems, killG, unown, offG, Tg.put, setAll, blkG, wipeG, stepC, stepF, stepD, vAnd, vOr, vChain, h2, m1, d1, zl], by simp -implicitDefEqProofs -dsimp [e_var, e_int, e_str, e_bl, e_non, e_glb, e_bin, e_cmp, e_chain, e_neg, e_not, e_and, e_or, e_one, e_ite, e_tup, e_lst, e_dic, e_idx, e_dget, e_slc, e_get1, e_get2, e_call, e_bi, e_isa, e_comp, e_comp2, e_dcomp, es_nil, es_cons, eo_no, eo_yes, ec_no, ec_yes, ei_seq, ei_rng1, ei_rng2, s_asg, s_aug, s_setL, s_setD, s_app, s_ext, s_pop, s_ite, s_for_, s_wh, s_ret, s_retN, s_brk, s_cnt, s_pas, ss_nil, ss_cons, sq_nx, sq_rt, sq_bk, sq_ct, rn_nx, rn_rt, evAsg, startG, putNm, giveUp, Dl.at_non, Dl.at_bl, Dl.at_int, Dl.at_str, Dl.at_lst, Dl.at_tup, Dl.at_dic, Dl.mt_non, Dl.mt_bl, Dl.mt_int, Dl.mt_str, Dl.mt_lst, Dl.mt_tup, Dl.mt_dic, fre, esc, escs, esci, getG, asI, asB, dTru, dNot, dNeg, BOp.fo, COp.fo, Bi.fo, onOwn, evApp, evExt, evSetL, evSetD, evAug, AOp.fo, dApp, dExt, dTuple, dList, dInt, dAbs, dLen, dItems, killG, unown, offG, Tg.put, setAll, blkG, wipeG, stepC, stepF, stepD, vAnd, vOr, vChain], by simp; omega⟩
      · have q1 : dMul (.int r) (.int 48271) = some (.int (r * 48271)) := dMul_ii _ _ (.inr ⟨by omega, by omega⟩)
        have q2 : dMul (.int ((t : Int) + 1)) (.int 69621) = some (.int (((t : Int) + 1) * 69621)) := dMul_ii _ _ (.inr ⟨by omega, by omega⟩)
        generalize hA : r * 48271 + ((t : Int) + 1) * 69621 + 11 = A at *
        have q3 : dMod (.int A) (.int 2147483647) = some (.int (A.fmod 2147483647)) := dMod_ii _ _ (by omega)
        have b3 := fm_bd A 2147483647 (by omega)
        generalize hB : A.fmod 2147483647 = B at *
        have q4 : dMul (.int B) (.int B) = some (.int (B * B)) := dMul_ii _ _ (.inl ⟨by omega, by omega⟩)
        have q5 : dMul (.int 40692) (.int ((t : Int) + 3)) = some (.int (40692 * ((t : Int) + 3))) := dMul_ii _ _ (.inl ⟨by omega, by omega⟩)
        generalize hC : B * B + 40692 * ((t : Int) + 3) = C at *
        have q6 : dMod (.int C) (.int 2147483399) = some (.int (C.fmod 2147483399)) := dMod_ii _ _ (by omega)
        generalize hE : C.fmod 2147483399 = E at *
        have q7 : dDiv (.int E) (.int 64) = some (.int (E.fdiv 64)) := dDiv_ii _ _ ⟨by omega, by decide⟩
        generalize hF : E.fdiv 64 = F at *
        have q8 : dMod (.int F) (.int 5040) = some (.int (F.fmod 5040)) := dMod_ii _ _ (by omega)
        refine ⟨[some (false, .int c), some (false, .int n), some (false, .int z.1), some (false, .bool g), some (false, .int r), some (true, .list (z.2.map .int)), some (false, .int t), none], [some (false, .int c), some (false, .int n), some (false, .int z.1), some (false, .bool g), some (false, .int r), some (true, .list ((z.2 ++ [F.fmod 5040]).map .int)), some (false, .int t), some (false, .int E)], (z.1, z.2 ++ [F.fmod 5040]), rfl, ?_, by simp -implicitDefEqProofs -dsimp [e_var, e_int, e_str, e_bl, e_non, e_glb, e_bin, e_cmp, e_chain, e_neg, e_not, e_and, e_or, e_one, e_ite, e_tup, e_lst, e_dic, e_idx, e_dget, e_slc, e_get1, e_get2, e_call, e_bi, e_isa, e_comp, e_comp2, e_dcomp, es_nil, es_cons, eo_no, eo_yes, ec_no, ec_yes, ei_seq, ei_rng1, ei_rng2, s_asg, s_aug, s_setL, s_setD, s_app, s_ext, s_pop, s_ite, s_for_, s_wh, s_ret, s_retN, s_brk, s_cnt, s_pas, ss_nil, ss_cons, sq_nx, sq_rt, sq_bk, sq_ct, rn_nx, rn_rt, evAsg, startG, putNm, giveUp, Dl.at_non, Dl.at_bl, Dl.at_int, Dl.at_str, Dl.at_lst, Dl.at_tup, Dl.at_dic, Dl.mt_non, Dl.mt_bl, Dl.mt_int, Dl.mt_str, Dl.mt_lst, Dl.mt_tup, Dl.mt_dic, fre, esc, escs, esci, getG, asI, asB, dTru, dNot, dNeg, BOp.fo, COp.fo, Bi.fo, onOwn, evApp, evExt, evSetL, evSetD, evAug, AOp.fo, dApp, dExt, dTuple, dList, dInt, dAbs, dLen, dItems, killG, unown, offG, Tg.put, setAll, blkG, wipeG, stepC, stepF, stepD, vAnd, vOr, vChain], by simp; omega⟩
        cases g with
        | false => simp -implicitDefEqProofs -dsimp [B1__law_draws, e_var, e_int, e_str, e_bl, e_non, e_glb, e_bin, e_cmp, e_chain, e_neg, e_not, e_and, e_or, e_one, e_ite, e_tup, e_lst, e_dic, e_idx, e_dget, e_slc, e_get1, e_get2, e_call, e_bi, e_isa, e_comp, e_comp2, e_dcomp, es_nil, es_cons, eo_no, eo_yes, ec_no, ec_yes, ei_seq, ei_rng1, ei_rng2, s_asg, s_aug, s_setL, s_setD, s_app, s_ext, s_pop, s_ite, s_for_, s_wh, s_ret, s_retN, s_brk, s_cnt, s_pas, ss_nil, ss_cons, sq_nx, sq_rt, sq_bk, sq_ct, rn_nx, rn_rt, evAsg, startG, putNm, giveUp, Dl.at_non, Dl.at_bl, Dl.at_int, Dl.at_str, Dl.at_lst, Dl.at_tup, Dl.at_dic, Dl.mt_non, Dl.mt_bl, Dl.mt_int, Dl.mt_str, Dl.mt_lst, Dl.mt_tup, Dl.mt_dic, fre, esc, escs, esci, getG, asI, asB, dTru, dNot, dNeg, BOp.fo, COp.fo, Bi.fo, onOwn, evApp, evExt, evSetL, evSetD, evAug, AOp.fo, dApp, dExt, dTuple, dList, dInt, dAbs, dLen, dItems, killG, unown, offG, Tg.put, setAll, blkG, wipeG, stepC, stepF, stepD, vAnd, vOr, vChain, q1, q2, q3, q4, q5, q6, q7, q8, hA, hC, zl]
        | true =>
          have h2 : ¬ z.1 > 0 := fun h => hd ⟨rfl, h⟩
          simp -implicitDefEqProofs -dsimp [B1__law_draws, e_var, e_int, e_str, e_bl, e_non, e_glb, e_bin, e_cmp, e_chain, e_neg, e_not, e_and, e_or, e_one, e_ite, e_tup, e_lst, e_dic, e_idx, e_dget, e_slc, e_get1, e_get2, e_call, e_bi, e_isa, e_comp, e_comp2, e_dcomp, es_nil, es_cons, eo_no, eo_yes, ec_no, ec_yes, ei_seq, ei_rng1, ei_rng2, s_asg, s_aug, s_setL, s_setD, s_app, s_ext, s_pop, s_ite, s_for_, s_wh, s_ret, s_retN, s_brk, s_cnt, s_pas, ss_nil, ss_cons, sq_nx, sq_rt, sq_bk, sq_ct, rn_nx, rn_rt, evAsg, startG, putNm, giveUp, Dl.at_non, Dl.at_bl, Dl.at_int, Dl.at_str, Dl.at_lst, Dl.at_tup, Dl.at_dic, Dl.mt_non, Dl.mt_bl, Dl.mt_int, Dl.mt_str, Dl.mt_lst, Dl.mt_tup, Dl.mt_dic, fre, esc, escs, esci, getG, asI, asB, dTru, dNot, dNeg, BOp.fo, COp.fo, Bi.fo, onOwn, evApp, evExt, evSetL, evSetD, evAug, AOp.fo, dApp, dExt, dTuple, dList, dInt, dAbs, dLen, dItems, killG, unown, offG, Tg.put, setAll, blkG, wipeG, stepC, stepF, stepD, vAnd, vOr, vChain, h2, q1, q2, q3, q4, q5, q6, q7, q8, hA, hC, zl])
      (List.range n) (r, []) (by simp)
    exact ⟨z, e, by simpa using h⟩
  obtain ⟨z, L, hz⟩ := L
  refine ⟨z.2, hz, ?_⟩
  have L' : evS G (den G Pf (k - 1)) L1__law_draws [some (false, .int c), some (false, .int n), some (false, .int r), some (false, .bool g), some (false, .int r), some (true, .list []), none, none] = _ := L
  simp -implicitDefEqProofs -dsimp [F__law_draws, b__law_draws, e_var, e_int, e_str, e_bl, e_non, e_glb, e_bin, e_cmp, e_chain, e_neg, e_not, e_and, e_or, e_one, e_ite, e_tup, e_lst, e_dic, e_idx, e_dget, e_slc, e_get1, e_get2, e_call, e_bi, e_isa, e_comp, e_comp2, e_dcomp, es_nil, es_cons, eo_no, eo_yes, ec_no, ec_yes, ei_seq, ei_rng1, ei_rng2, s_asg, s_aug, s_setL, s_setD, s_app, s_ext, s_pop, s_ite, s_for_, s_wh, s_ret, s_retN, s_brk, s_cnt, s_pas, ss_nil, ss_cons, sq_nx, sq_rt, sq_bk, sq_ct, rn_nx, rn_rt, evAsg, startG, putNm, giveUp, Dl.at_non, Dl.at_bl, Dl.at_int, Dl.at_str, Dl.at_lst, Dl.at_tup, Dl.at_dic, Dl.mt_non, Dl.mt_bl, Dl.mt_int, Dl.mt_str, Dl.mt_lst, Dl.mt_tup, Dl.mt_dic, fre, esc, escs, esci, getG, asI, asB, dTru, dNot, dNeg, BOp.fo, COp.fo, Bi.fo, onOwn, evApp, evExt, evSetL, evSetD, evAug, AOp.fo, dApp, dExt, dTuple, dList, dInt, dAbs, dLen, dItems, killG, unown, offG, Tg.put, setAll, blkG, wipeG, stepC, stepF, stepD, vAnd, vOr, vChain, hr, pw, hg, L', fit, Bi.fr]
end K47

set_option Elab.async false
set_option linter.all false
set_option maxRecDepth 100000
set_option maxHeartbeats 4000000
namespace K47
open Dl PySem
open L2 (atI ixN)
def wds : W := ["ant", "bat", "cow", "doe", "eel", "fly", "gnat", "hen", "ibis", "jay"]
def pick (p : Nat → Bool) : W := ((List.range 10).filter p).map fun i => wds.getD i ""
theorem wds_nodup : wds.Nodup := by decide +kernel
theorem wds_z : ("zebra" : Str) ∉ wds := by decide +kernel
theorem wds_len : wds.length = 10 := by decide +kernel
theorem getD_at {α : Type} (l : List α) (i : Nat) (d : α) (h : i < l.length) : l.getD i d = l[i] := by
  rw [List.getD, List.getElem?_eq_getElem h]
  rfl
theorem wds_inj {i j : Nat} (hi : i < wds.length) (hj : j < wds.length) (e : wds[i] = wds[j]) : i = j := by
  have nd := List.pairwise_iff_getElem.mp wds_nodup
  rcases Nat.lt_trichotomy i j with h | h | h
  · exact absurd e (nd i j hi hj h)
  · exact h
  · exact absurd e.symm (nd j i hj hi h)
theorem pick_good (p q : Nat → Bool) (h : ∀ i, p i = true → q i = true → False) : Good2 (pick p) (pick q) := by
  have nd : ((List.range 10).filter p ++ (List.range 10).filter q).Nodup := by
    rw [List.nodup_append]
    refine ⟨List.nodup_range.filter _, List.nodup_range.filter _, fun a ha b hb e => ?_⟩
    subst e
    exact h a (List.mem_filter.mp ha).2 (List.mem_filter.mp hb).2
  have lt : ∀ i ∈ (List.range 10).filter p ++ (List.range 10).filter q, i < 10 := fun i hi => by
    rcases List.mem_append.mp hi with hi | hi <;> exact List.mem_range.mp (List.mem_filter.mp hi).1
  have e : pick p ++ pick q = ((List.range 10).filter p ++ (List.range 10).filter q).map fun i => wds.getD i "" := by
    unfold pick
    rw [List.map_append]
  refine ⟨?_, ?_, ?_⟩
  · rw [e]
    refine List.pairwise_map.mpr (List.Pairwise.imp_of_mem (fun {a b} ha hb hne hab => ?_) nd)
    have h1 := lt a ha
    have h2 := lt b hb
    have l := wds_len
    rw [getD_at _ _ _ (by omega), getD_at _ _ _ (by omega)] at hab
    exact hne (wds_inj (by omega) (by omega) hab)
  · rw [e]
    intro z
    obtain ⟨i, hi, e2⟩ := List.mem_map.mp z
    have h1 := lt i hi
    have l := wds_len
    rw [getD_at _ _ _ (by omega)] at e2
    exact wds_z (e2 ▸ List.getElem_mem _)
  · have go : ∀ xs : List Nat, (xs.filter p).length + (xs.filter q).length ≤ xs.length := fun xs => by
      induction xs with
      | nil => simp
      | cons x xs ih =>
        cases h1 : p x <;> cases h2 : q x <;> simp [h1, h2] <;> first | omega | exact (h x h1 h2).elim
    have := go (List.range 10)
    unfold pick
    rw [List.length_map, List.length_map]
    simpa using this
theorem nat_of {x m : Int} (h : 0 < m) : ∃ a : Nat, x.fmod m = (a : Int) ∧ (a : Int) < m := by
  have b := fm_bd x m h
  obtain ⟨a, ha⟩ := Int.eq_ofNat_of_zero_le b.1
  exact ⟨a, ha, by omega⟩
theorem law_true : ∀ ns : List Int, ns.length ≤ 63 → den G Pf 40 iLaw [.list (ns.map .int)] = some (.bool true) := by
  intro ns _
  obtain ⟨c0, q0⟩ := cell_int (k := 39) (by omega) ns 0
  obtain ⟨xs, hx, q1⟩ := draws_int (k := 39) (by omega) c0 40 (by omega)
  have q2 := law_levels (k := 39) (by omega)
  obtain ⟨wd, hwd⟩ : ∃ wd : D, wd = .tuple (eSs wds) := ⟨_, rfl⟩
  obtain ⟨sc, hsc⟩ : ∃ sc : D, sc = .list (ns.map .int) := ⟨_, rfl⟩
  have A1 : evS G (den G Pf 39) L1_law [some (false, sc), some (false, .list (xs.map .int)), some (false, .list (lvs 10)), some (false, wd), none, none, none, none, none, none, none, none, none, none] = some (.nx [some (false, sc), some (false, .list (xs.map .int)), some (false, .list (lvs 10)), some (false, wd), none, none, none, none, none, none, none, none, none, none]) := by
    unfold L1_law
    rw [for_rng1 (n := 3) (by simp -implicitDefEqProofs -dsimp [e_var, e_int, e_str, e_bl, e_non, e_glb, e_bin, e_cmp, e_chain, e_neg, e_not, e_and, e_or, e_one, e_ite, e_tup, e_lst, e_dic, e_idx, e_dget, e_slc, e_get1, e_get2, e_call, e_bi, e_isa, e_comp, e_comp2, e_dcomp, es_nil, es_cons, eo_no, eo_yes, ec_no, ec_yes, ei_seq, ei_rng1, ei_rng2, s_asg, s_aug, s_setL, s_setD, s_app, s_ext, s_pop, s_ite, s_for_, s_wh, s_ret, s_retN, s_brk, s_cnt, s_pas, ss_nil, ss_cons, sq_nx, sq_rt, sq_bk, sq_ct, rn_nx, rn_rt, evAsg, startG, putNm, giveUp, Dl.at_non, Dl.at_bl, Dl.at_int, Dl.at_str, Dl.at_lst, Dl.at_tup, Dl.at_dic, Dl.mt_non, Dl.mt_bl, Dl.mt_int, Dl.mt_str, Dl.mt_lst, Dl.mt_tup, Dl.mt_dic, fre, esc, escs, esci, getG, asI, asB, dTru, dNot, dNeg, BOp.fo, COp.fo, Bi.fo, onOwn, evApp, evExt, evSetL, evSetD, evAug, AOp.fo, dApp, dExt, dTuple, dList, dInt, dAbs, dLen, dItems, killG, unown, offG, Tg.put, setAll, blkG, wipeG, stepC, stepF, stepD, vAnd, vOr, vChain]) (by omega)]
    obtain ⟨_, e, _⟩ := evFor_inv (S := Unit) (t := .nm 4) (body := evSs G (den G Pf 39) B1_law) (kl := [4, 5, 6]) (fun i : Nat => PyData.int i) (fun _ => [some (false, sc), some (false, .list (xs.map .int)), some (false, .list (lvs 10)), some (false, wd), none, none, none, none, none, none, none, none, none, none]) (fun ts _ => ∀ t ∈ ts, t < 3) (fun t ts _ ht => by
      have h3 := ht t (by simp)
      have i1 := at_ints xs t (by omega)
      have i2 := at_ints xs (3 + t) (by omega)
      push_cast at i2
      have ml : dMul (.int 2) (.int t) = some (.int (2 * t)) := dMul_ii _ _ (.inl ⟨by omega, by omega⟩)
      obtain ⟨a, ea, ba⟩ := nat_of (x := xs[t]) (m := 7 - 2 * (t : Int)) (by omega)
      have m1 : dMod (.int xs[t]) (.int (7 - 2 * (t : Int))) = some (.int (a : Int)) := by rw [dMod_ii _ _ (by omega), ea]
      obtain ⟨b, eb, bb⟩ := nat_of (x := xs[3 + t]) (m := 8 - (a : Int)) (by omega)
      have m2 : dMod (.int xs[3 + t]) (.int (8 - (a : Int))) = some (.int (b : Int)) := by rw [dMod_ii _ _ (by omega), eb]
      have ln := law_numbers (k := 39) (by omega) a b (by omega)
      exact ⟨[some (false, sc), some (false, .list (xs.map .int)), some (false, .list (lvs 10)), some (false, wd), some (false, .int t), none, none, none, none, none, none, none, none, none], [some (false, sc), some (false, .list (xs.map .int)), some (false, .list (lvs 10)), some (false, wd), some (false, .int t), some (false, .int a), some (false, .int b), none, none, none, none, none, none, none], (), rfl, by simp -implicitDefEqProofs -dsimp [B1_law, e_var, e_int, e_str, e_bl, e_non, e_glb, e_bin, e_cmp, e_chain, e_neg, e_not, e_and, e_or, e_one, e_ite, e_tup, e_lst, e_dic, e_idx, e_dget, e_slc, e_get1, e_get2, e_call, e_bi, e_isa, e_comp, e_comp2, e_dcomp, es_nil, es_cons, eo_no, eo_yes, ec_no, ec_yes, ei_seq, ei_rng1, ei_rng2, s_asg, s_aug, s_setL, s_setD, s_app, s_ext, s_pop, s_ite, s_for_, s_wh, s_ret, s_retN, s_brk, s_cnt, s_pas, ss_nil, ss_cons, sq_nx, sq_rt, sq_bk, sq_ct, rn_nx, rn_rt, evAsg, startG, putNm, giveUp, Dl.at_non, Dl.at_bl, Dl.at_int, Dl.at_str, Dl.at_lst, Dl.at_tup, Dl.at_dic, Dl.mt_non, Dl.mt_bl, Dl.mt_int, Dl.mt_str, Dl.mt_lst, Dl.mt_tup, Dl.mt_dic, fre, esc, escs, esci, getG, asI, asB, dTru, dNot, dNeg, BOp.fo, COp.fo, Bi.fo, onOwn, evApp, evExt, evSetL, evSetD, evAug, AOp.fo, dApp, dExt, dTuple, dList, dInt, dAbs, dLen, dItems, killG, unown, offG, Tg.put, setAll, blkG, wipeG, stepC, stepF, stepD, vAnd, vOr, vChain, i1, i2, ml, m1, m2, ln], by simp -implicitDefEqProofs -dsimp [e_var, e_int, e_str, e_bl, e_non, e_glb, e_bin, e_cmp, e_chain, e_neg, e_not, e_and, e_or, e_one, e_ite, e_tup, e_lst, e_dic, e_idx, e_dget, e_slc, e_get1, e_get2, e_call, e_bi, e_isa, e_comp, e_comp2, e_dcomp, es_nil, es_cons, eo_no, eo_yes, ec_no, ec_yes, ei_seq, ei_rng1, ei_rng2, s_asg, s_aug, s_setL, s_setD, s_app, s_ext, s_pop, s_ite, s_for_, s_wh, s_ret, s_retN, s_brk, s_cnt, s_pas, ss_nil, ss_cons, sq_nx, sq_rt, sq_bk, sq_ct, rn_nx, rn_rt, evAsg, startG, putNm, giveUp, Dl.at_non, Dl.at_bl, Dl.at_int, Dl.at_str, Dl.at_lst, Dl.at_tup, Dl.at_dic, Dl.mt_non, Dl.mt_bl, Dl.mt_int, Dl.mt_str, Dl.mt_lst, Dl.mt_tup, Dl.mt_dic, fre, esc, escs, esci, getG, asI, asB, dTru, dNot, dNeg, BOp.fo, COp.fo, Bi.fo, onOwn, evApp, evExt, evSetL, evSetD, evAug, AOp.fo, dApp, dExt, dTuple, dList, dInt, dAbs, dLen, dItems, killG, unown, offG, Tg.put, setAll, blkG, wipeG, stepC, stepF, stepD, vAnd, vOr, vChain], fun t ht' => ht t (by simp [ht'])⟩)
      (List.range 3) () (fun t ht => List.mem_range.mp ht)
    exact e
  obtain ⟨a, ea, ba⟩ := nat_of (x := xs[6]) (m := 11) (by omega)
  have j6 := at_ints xs 6 (by omega)
  have j7 := at_ints xs 7 (by omega)
  have m6 : dMod (.int xs[6]) (.int 11) = some (.int (a : Int)) := by rw [dMod_ii _ _ (by omega), ea]
  obtain ⟨b, eb, bb⟩ := nat_of (x := xs[7]) (m := 11 - (a : Int)) (by omega)
  have m7 : dMod (.int xs[7]) (.int (11 - (a : Int))) = some (.int (b : Int)) := by rw [dMod_ii _ _ (by omega), eb]
  have A2 : evS G (den G Pf 39) L2_law [some (false, sc), some (false, .list (xs.map .int)), some (false, .list (lvs 10)), some (false, wd), none, some (false, .int a), none, none, none, none, none, none, none, none] = some (.nx [some (false, sc), some (false, .list (xs.map .int)), some (false, .list (lvs 10)), some (false, wd), none, some (false, .int a), none, none, none, none, none, none, none, none]) := by
    unfold L2_law
    rw [for_seq (d := .tuple ([((a : Int), (b : Int)), (2, 0), (0, 1)].map eII)) (ds := [((a : Int), (b : Int)), (2, 0), (0, 1)].map eII) (by
      have j7' : dIdx (.list (xs.map .int)) (.int 7) = some (.int xs[7]) := j7
      simp -implicitDefEqProofs -dsimp [e_var, e_int, e_str, e_bl, e_non, e_glb, e_bin, e_cmp, e_chain, e_neg, e_not, e_and, e_or, e_one, e_ite, e_tup, e_lst, e_dic, e_idx, e_dget, e_slc, e_get1, e_get2, e_call, e_bi, e_isa, e_comp, e_comp2, e_dcomp, es_nil, es_cons, eo_no, eo_yes, ec_no, ec_yes, ei_seq, ei_rng1, ei_rng2, s_asg, s_aug, s_setL, s_setD, s_app, s_ext, s_pop, s_ite, s_for_, s_wh, s_ret, s_retN, s_brk, s_cnt, s_pas, ss_nil, ss_cons, sq_nx, sq_rt, sq_bk, sq_ct, rn_nx, rn_rt, evAsg, startG, putNm, giveUp, Dl.at_non, Dl.at_bl, Dl.at_int, Dl.at_str, Dl.at_lst, Dl.at_tup, Dl.at_dic, Dl.mt_non, Dl.mt_bl, Dl.mt_int, Dl.mt_str, Dl.mt_lst, Dl.mt_tup, Dl.mt_dic, fre, esc, escs, esci, getG, asI, asB, dTru, dNot, dNeg, BOp.fo, COp.fo, Bi.fo, onOwn, evApp, evExt, evSetL, evSetD, evAug, AOp.fo, dApp, dExt, dTuple, dList, dInt, dAbs, dLen, dItems, killG, unown, offG, Tg.put, setAll, blkG, wipeG, stepC, stepF, stepD, vAnd, vOr, vChain, j7', m7, fit, eII]) rfl]
    obtain ⟨_, e, _⟩ := evFor_inv (S := Unit) (t := .tp [7, 8]) (body := evSs G (den G Pf 39) B2_law) (kl := [7, 8]) eII (fun _ => [some (false, sc), some (false, .list (xs.map .int)), some (false, .list (lvs 10)), some (false, wd), none, some (false, .int a), none, none, none, none, none, none, none, none]) (fun ts _ => ∀ t ∈ ts, ∃ u v : Nat, t = ((u : Int), (v : Int)) ∧ u + v ≤ 10) (fun t ts _ ht => by
      obtain ⟨u, v, rfl, huv⟩ := ht t (by simp)
      have ln := law_numbers (k := 39) (by omega) u v huv
      exact ⟨[some (false, sc), some (false, .list (xs.map .int)), some (false, .list (lvs 10)), some (false, wd), none, some (false, .int a), none, some (false, .int u), some (false, .int v), none, none, none, none, none], [some (false, sc), some (false, .list (xs.map .int)), some (false, .list (lvs 10)), some (false, wd), none, some (false, .int a), none, some (false, .int u), some (false, .int v), none, none, none, none, none], (), rfl, by simp -implicitDefEqProofs -dsimp [B2_law, e_var, e_int, e_str, e_bl, e_non, e_glb, e_bin, e_cmp, e_chain, e_neg, e_not, e_and, e_or, e_one, e_ite, e_tup, e_lst, e_dic, e_idx, e_dget, e_slc, e_get1, e_get2, e_call, e_bi, e_isa, e_comp, e_comp2, e_dcomp, es_nil, es_cons, eo_no, eo_yes, ec_no, ec_yes, ei_seq, ei_rng1, ei_rng2, s_asg, s_aug, s_setL, s_setD, s_app, s_ext, s_pop, s_ite, s_for_, s_wh, s_ret, s_retN, s_brk, s_cnt, s_pas, ss_nil, ss_cons, sq_nx, sq_rt, sq_bk, sq_ct, rn_nx, rn_rt, evAsg, startG, putNm, giveUp, Dl.at_non, Dl.at_bl, Dl.at_int, Dl.at_str, Dl.at_lst, Dl.at_tup, Dl.at_dic, Dl.mt_non, Dl.mt_bl, Dl.mt_int, Dl.mt_str, Dl.mt_lst, Dl.mt_tup, Dl.mt_dic, fre, esc, escs, esci, getG, asI, asB, dTru, dNot, dNeg, BOp.fo, COp.fo, Bi.fo, onOwn, evApp, evExt, evSetL, evSetD, evAug, AOp.fo, dApp, dExt, dTuple, dList, dInt, dAbs, dLen, dItems, killG, unown, offG, Tg.put, setAll, blkG, wipeG, stepC, stepF, stepD, vAnd, vOr, vChain, ln], by simp -implicitDefEqProofs -dsimp [e_var, e_int, e_str, e_bl, e_non, e_glb, e_bin, e_cmp, e_chain, e_neg, e_not, e_and, e_or, e_one, e_ite, e_tup, e_lst, e_dic, e_idx, e_dget, e_slc, e_get1, e_get2, e_call, e_bi, e_isa, e_comp, e_comp2, e_dcomp, es_nil, es_cons, eo_no, eo_yes, ec_no, ec_yes, ei_seq, ei_rng1, ei_rng2, s_asg, s_aug, s_setL, s_setD, s_app, s_ext, s_pop, s_ite, s_for_, s_wh, s_ret, s_retN, s_brk, s_cnt, s_pas, ss_nil, ss_cons, sq_nx, sq_rt, sq_bk, sq_ct, rn_nx, rn_rt, evAsg, startG, putNm, giveUp, Dl.at_non, Dl.at_bl, Dl.at_int, Dl.at_str, Dl.at_lst, Dl.at_tup, Dl.at_dic, Dl.mt_non, Dl.mt_bl, Dl.mt_int, Dl.mt_str, Dl.mt_lst, Dl.mt_tup, Dl.mt_dic, fre, esc, escs, esci, getG, asI, asB, dTru, dNot, dNeg, BOp.fo, COp.fo, Bi.fo, onOwn, evApp, evExt, evSetL, evSetD, evAug, AOp.fo, dApp, dExt, dTuple, dList, dInt, dAbs, dLen, dItems, killG, unown, offG, Tg.put, setAll, blkG, wipeG, stepC, stepF, stepD, vAnd, vOr, vChain], fun t ht' => ht t (by simp [ht'])⟩)
      [((a : Int), (b : Int)), (2, 0), (0, 1)] () (fun t ht => by
        simp only [List.mem_cons, List.not_mem_nil, or_false] at ht
        rcases ht with rfl | rfl | rfl
        · exact ⟨a, b, rfl, by omega⟩
        · exact ⟨2, 0, rfl, by omega⟩
        · exact ⟨0, 1, rfl, by omega⟩)
    refine Eq.trans ?_ e
    congr 1
  have A3 : evS G (den G Pf 39) L3_law [some (false, sc), some (false, .list (xs.map .int)), some (false, .list (lvs 10)), some (false, wd), none, some (false, .int a), none, none, none, none, none, none, none, none] = some (.nx [some (false, sc), some (false, .list (xs.map .int)), some (false, .list (lvs 10)), some (false, wd), none, some (false, .int a), none, none, none, none, none, none, none, none]) := by
    unfold L3_law
    rw [for_rng1 (n := 2) (by simp -implicitDefEqProofs -dsimp [e_var, e_int, e_str, e_bl, e_non, e_glb, e_bin, e_cmp, e_chain, e_neg, e_not, e_and, e_or, e_one, e_ite, e_tup, e_lst, e_dic, e_idx, e_dget, e_slc, e_get1, e_get2, e_call, e_bi, e_isa, e_comp, e_comp2, e_dcomp, es_nil, es_cons, eo_no, eo_yes, ec_no, ec_yes, ei_seq, ei_rng1, ei_rng2, s_asg, s_aug, s_setL, s_setD, s_app, s_ext, s_pop, s_ite, s_for_, s_wh, s_ret, s_retN, s_brk, s_cnt, s_pas, ss_nil, ss_cons, sq_nx, sq_rt, sq_bk, sq_ct, rn_nx, rn_rt, evAsg, startG, putNm, giveUp, Dl.at_non, Dl.at_bl, Dl.at_int, Dl.at_str, Dl.at_lst, Dl.at_tup, Dl.at_dic, Dl.mt_non, Dl.mt_bl, Dl.mt_int, Dl.mt_str, Dl.mt_lst, Dl.mt_tup, Dl.mt_dic, fre, esc, escs, esci, getG, asI, asB, dTru, dNot, dNeg, BOp.fo, COp.fo, Bi.fo, onOwn, evApp, evExt, evSetL, evSetD, evAug, AOp.fo, dApp, dExt, dTuple, dList, dInt, dAbs, dLen, dItems, killG, unown, offG, Tg.put, setAll, blkG, wipeG, stepC, stepF, stepD, vAnd, vOr, vChain]) (by omega)]
    obtain ⟨_, e, _⟩ := evFor_inv (S := Unit) (t := .nm 4) (body := evSs G (den G Pf 39) B3_law) (kl := [4, 9, 10, 11, 12]) (fun i : Nat => PyData.int i) (fun _ => [some (false, sc), some (false, .list (xs.map .int)), some (false, .list (lvs 10)), some (false, wd), none, some (false, .int a), none, none, none, none, none, none, none, none]) (fun ts _ => ∀ t ∈ ts, t < 2) (fun t ts _ ht => by
      have h3 := ht t (by simp)
      obtain ⟨c, qc⟩ := cell_int (k := 39) (by omega) ns (1 + t)
      rw [← hsc] at qc
      push_cast at qc
      obtain ⟨ps, hp, qp⟩ := draws_int (k := 39) (by omega) c 30 (by omega)
      have qp' : den G Pf 39 8 [.int c, .int 30] = some (.list (ps.map .int)) := qp
      have i8 := at_ints xs (8 + t) (by omega)
      push_cast at i8
      have m8 : dMod (.int xs[8 + t]) (.int 3) = some (.int (xs[8 + t].fmod 3)) := dMod_ii _ _ (by omega)
      obtain ⟨w, ix, w0⟩ : ∃ w : Int, dIdx (.tuple [.int 3, .int 2, .int 5]) (.int (xs[8 + t].fmod 3)) = some (.int w) ∧ w ≠ 0 := by
        obtain ⟨u, hu, hb⟩ := nat_of (x := xs[8 + t]) (m := 3) (by omega)
        rw [hu]
        have : u = 0 ∨ u = 1 ∨ u = 2 := by omega
        rcases this with rfl | rfl | rfl
        · exact ⟨3, rfl, by omega⟩
        · exact ⟨2, rfl, by omega⟩
        · exact ⟨5, rfl, by omega⟩
      have C1 : ev G (den G Pf 39) C1_law [some (false, sc), some (false, .list (xs.map .int)), some (false, .list (lvs 10)), some (false, wd), some (false, .int t), some (false, .int a), none, none, none, some (false, .list (ps.map .int)), none, none, none, none] = some (.list (((List.range 10).map fun i => (ps.getD i 0).fmod w).map .int)) := by
        unfold C1_law
        rw [List.map_map]
        refine ev_comp (evi_rng1 (n := 10) (by simp -implicitDefEqProofs -dsimp [e_var, e_int, e_str, e_bl, e_non, e_glb, e_bin, e_cmp, e_chain, e_neg, e_not, e_and, e_or, e_one, e_ite, e_tup, e_lst, e_dic, e_idx, e_dget, e_slc, e_get1, e_get2, e_call, e_bi, e_isa, e_comp, e_comp2, e_dcomp, es_nil, es_cons, eo_no, eo_yes, ec_no, ec_yes, ei_seq, ei_rng1, ei_rng2, s_asg, s_aug, s_setL, s_setD, s_app, s_ext, s_pop, s_ite, s_for_, s_wh, s_ret, s_retN, s_brk, s_cnt, s_pas, ss_nil, ss_cons, sq_nx, sq_rt, sq_bk, sq_ct, rn_nx, rn_rt, evAsg, startG, putNm, giveUp, Dl.at_non, Dl.at_bl, Dl.at_int, Dl.at_str, Dl.at_lst, Dl.at_tup, Dl.at_dic, Dl.mt_non, Dl.mt_bl, Dl.mt_int, Dl.mt_str, Dl.mt_lst, Dl.mt_tup, Dl.mt_dic, fre, esc, escs, esci, getG, asI, asB, dTru, dNot, dNeg, BOp.fo, COp.fo, Bi.fo, onOwn, evApp, evExt, evSetL, evSetD, evAug, AOp.fo, dApp, dExt, dTuple, dList, dInt, dAbs, dLen, dItems, killG, unown, offG, Tg.put, setAll, blkG, wipeG, stepC, stepF, stepD, vAnd, vOr, vChain]) (by omega)) ?_
        refine compL_m (fun i : Nat => PyData.int i) _ _ fun i hi => ?_
        rw [List.mem_range] at hi
        have id := at_ints ps i (by omega)
        have mw : dMod (.int ps[i]) (.int w) = some (.int (ps[i].fmod w)) := dMod_ii _ _ w0
        have gd := getD_at ps i 0 (by omega)
        simp -implicitDefEqProofs -dsimp [e_var, e_int, e_str, e_bl, e_non, e_glb, e_bin, e_cmp, e_chain, e_neg, e_not, e_and, e_or, e_one, e_ite, e_tup, e_lst, e_dic, e_idx, e_dget, e_slc, e_get1, e_get2, e_call, e_bi, e_isa, e_comp, e_comp2, e_dcomp, es_nil, es_cons, eo_no, eo_yes, ec_no, ec_yes, ei_seq, ei_rng1, ei_rng2, s_asg, s_aug, s_setL, s_setD, s_app, s_ext, s_pop, s_ite, s_for_, s_wh, s_ret, s_retN, s_brk, s_cnt, s_pas, ss_nil, ss_cons, sq_nx, sq_rt, sq_bk, sq_ct, rn_nx, rn_rt, evAsg, startG, putNm, giveUp, Dl.at_non, Dl.at_bl, Dl.at_int, Dl.at_str, Dl.at_lst, Dl.at_tup, Dl.at_dic, Dl.mt_non, Dl.mt_bl, Dl.mt_int, Dl.mt_str, Dl.mt_lst, Dl.mt_tup, Dl.mt_dic, fre, esc, escs, esci, getG, asI, asB, dTru, dNot, dNeg, BOp.fo, COp.fo, Bi.fo, onOwn, evApp, evExt, evSetL, evSetD, evAug, AOp.fo, dApp, dExt, dTuple, dList, dInt, dAbs, dLen, dItems, killG, unown, offG, Tg.put, setAll, blkG, wipeG, stepC, stepF, stepD, vAnd, vOr, vChain, id, i8, m8, ix, mw, fit, -List.getD_eq_getElem?_getD, gd]
      have K : ∀ i, i < 10 → dIdx (.list (((List.range 10).map fun i => (ps.getD i 0).fmod w).map .int)) (.int (i : Nat)) = some (.int ((ps.getD i 0).fmod w)) := fun i hi => by
        have := at_ints ((List.range 10).map fun i => (ps.getD i 0).fmod w) i (by simpa using hi)
        rw [this]
        simp
      have Wd : ∀ i, i < 10 → dIdx wd (.int (i : Nat)) = some (.str (wds.getD i "")) := fun i hi => by
        rw [hwd]
        show atI (eSs wds) (i : Int) = _
        rw [atI_nat _ _ (by rw [len_ss, wds_len]; exact hi), getD_at _ _ _ (by rw [wds_len]; exact hi)]
        simp [eSs]
      generalize hks : (((List.range 10).map fun i => (ps.getD i 0).fmod w).map PyData.int) = ks at C1 K
      have C23 : ∀ (cc : Int) (Cx : Ex) (Γ : Gm) (h : Cx = .comp (.idx (.var 3) (.var 13)) (.nm 13) (.rng1 (.int 10)) (.yes (.cmp .eq (.idx (.var 10) (.var 13)) (.int cc))) [13]) (z : Option (Bool × D)), ev G (den G Pf 39) Cx [some (false, sc), some (false, .list (xs.map .int)), some (false, .list (lvs 10)), some (false, wd), some (false, .int t), some (false, .int a), none, none, none, some (false, .list (ps.map .int)), some (true, .list ks), z, none, none] = some (.list (eSs (pick fun i => decide ((ps.getD i 0).fmod w = cc)))) := by
        intro cc Cx _ h z
        subst h
        refine ev_comp (evi_rng1 (n := 10) (by simp -implicitDefEqProofs -dsimp [e_var, e_int, e_str, e_bl, e_non, e_glb, e_bin, e_cmp, e_chain, e_neg, e_not, e_and, e_or, e_one, e_ite, e_tup, e_lst, e_dic, e_idx, e_dget, e_slc, e_get1, e_get2, e_call, e_bi, e_isa, e_comp, e_comp2, e_dcomp, es_nil, es_cons, eo_no, eo_yes, ec_no, ec_yes, ei_seq, ei_rng1, ei_rng2, s_asg, s_aug, s_setL, s_setD, s_app, s_ext, s_pop, s_ite, s_for_, s_wh, s_ret, s_retN, s_brk, s_cnt, s_pas, ss_nil, ss_cons, sq_nx, sq_rt, sq_bk, sq_ct, rn_nx, rn_rt, evAsg, startG, putNm, giveUp, Dl.at_non, Dl.at_bl, Dl.at_int, Dl.at_str, Dl.at_lst, Dl.at_tup, Dl.at_dic, Dl.mt_non, Dl.mt_bl, Dl.mt_int, Dl.mt_str, Dl.mt_lst, Dl.mt_tup, Dl.mt_dic, fre, esc, escs, esci, getG, asI, asB, dTru, dNot, dNeg, BOp.fo, COp.fo, Bi.fo, onOwn, evApp, evExt, evSetL, evSetD, evAug, AOp.fo, dApp, dExt, dTuple, dList, dInt, dAbs, dLen, dItems, killG, unown, offG, Tg.put, setAll, blkG, wipeG, stepC, stepF, stepD, vAnd, vOr, vChain]) (by omega)) ?_
        unfold pick eSs
        rw [List.map_map]
        refine compL_fm (fun i : Nat => PyData.int i) (fun i => decide ((ps.getD i 0).fmod w = cc)) _ _ fun i hi => ?_
        rw [List.mem_range] at hi
        have k1 := K i hi
        have k2 := Wd i hi
        by_cases hh : (ps.getD i 0).fmod w = cc <;> simp -implicitDefEqProofs -dsimp [e_var, e_int, e_str, e_bl, e_non, e_glb, e_bin, e_cmp, e_chain, e_neg, e_not, e_and, e_or, e_one, e_ite, e_tup, e_lst, e_dic, e_idx, e_dget, e_slc, e_get1, e_get2, e_call, e_bi, e_isa, e_comp, e_comp2, e_dcomp, es_nil, es_cons, eo_no, eo_yes, ec_no, ec_yes, ei_seq, ei_rng1, ei_rng2, s_asg, s_aug, s_setL, s_setD, s_app, s_ext, s_pop, s_ite, s_for_, s_wh, s_ret, s_retN, s_brk, s_cnt, s_pas, ss_nil, ss_cons, sq_nx, sq_rt, sq_bk, sq_ct, rn_nx, rn_rt, evAsg, startG, putNm, giveUp, Dl.at_non, Dl.at_bl, Dl.at_int, Dl.at_str, Dl.at_lst, Dl.at_tup, Dl.at_dic, Dl.mt_non, Dl.mt_bl, Dl.mt_int, Dl.mt_str, Dl.mt_lst, Dl.mt_tup, Dl.mt_dic, fre, esc, escs, esci, getG, asI, asB, dTru, dNot, dNeg, BOp.fo, COp.fo, Bi.fo, onOwn, evApp, evExt, evSetL, evSetD, evAug, AOp.fo, dApp, dExt, dTuple, dList, dInt, dAbs, dLen, dItems, killG, unown, offG, Tg.put, setAll, blkG, wipeG, stepC, stepF, stepD, vAnd, vOr, vChain, k1, k2, hh, -List.getD_eq_getElem?_getD]
      have C2 := fun z => C23 0 C2_law [] rfl z
      have C3 := fun z => C23 1 C3_law [] rfl z
      have gg := pick_good (fun i => decide ((ps.getD i 0).fmod w = 0)) (fun i => decide ((ps.getD i 0).fmod w = 1)) (fun i h1 h2 => by
        have h1 := of_decide_eq_true h1
        have h2 := of_decide_eq_true h2
        omega)
      generalize (pick fun i => decide ((ps.getD i 0).fmod w = 0)) = sW at C2 gg
      generalize (pick fun i => decide ((ps.getD i 0).fmod w = 1)) = dW at C3 gg
      have gl := gg.len
      have s1 : dSlc (.list (xs.map .int)) (some (10 + 9 * (t : Int))) none = some (.list ((xs.drop (10 + 9 * t)).map .int)) := by
        show some (PyData.list (cutL (xs.map PyData.int) _ none)) = _
        rw [show (10 + 9 * (t : Int)) = ((10 + 9 * t : Nat) : Int) by omega, cut_from _ _ (by rw [List.length_map]; omega), List.map_drop]
      have s2 : dSlc (.list (ps.map .int)) (some 10) none = some (.list ((ps.drop 10).map .int)) := by
        show some (PyData.list (cutL (ps.map PyData.int) (some ((10 : Nat) : Int)) none)) = _
        rw [cut_from _ _ (by rw [List.length_map]; omega), List.map_drop]
      have ml : dMul (.int 9) (.int t) = some (.int (9 * t)) := dMul_ii _ _ (.inl ⟨by omega, by omega⟩)
      have se := search (k := 39) (by omega) sW dW gg (xs.drop (10 + 9 * t)) (by rw [List.length_drop]; omega)
      have an := answers (k := 39) (by omega) sW dW wds (by omega) (by omega) (by rw [wds_len]; omega) (ps.drop 10) (by rw [List.length_drop]; omega)
      rw [← hwd] at an
      have e1 : esc C1_law = [9, 1, 4] := rfl
      have f1 : fre C1_law = true := rfl
      have e2 : esc C2_law = [3] := rfl
      have e3 : esc C3_law = [3] := rfl
      exact ⟨[some (false, sc), some (false, .list (xs.map .int)), some (false, .list (lvs 10)), some (false, wd), some (false, .int t), some (false, .int a), none, none, none, none, none, none, none, none], [some (false, sc), some (false, .list (xs.map .int)), some (false, .list (lvs 10)), some (false, wd), some (false, .int t), some (false, .int a), none, none, none, some (false, .list (ps.map .int)), some (true, .list ks), some (false, .tuple (eSs sW)), some (false, .tuple (eSs dW)), none], (), rfl, by simp -implicitDefEqProofs -dsimp [B3_law, e_var, e_int, e_str, e_bl, e_non, e_glb, e_bin, e_cmp, e_chain, e_neg, e_not, e_and, e_or, e_one, e_ite, e_tup, e_lst, e_dic, e_idx, e_dget, e_slc, e_get1, e_get2, e_call, e_bi, e_isa, e_comp, e_comp2, e_dcomp, es_nil, es_cons, eo_no, eo_yes, ec_no, ec_yes, ei_seq, ei_rng1, ei_rng2, s_asg, s_aug, s_setL, s_setD, s_app, s_ext, s_pop, s_ite, s_for_, s_wh, s_ret, s_retN, s_brk, s_cnt, s_pas, ss_nil, ss_cons, sq_nx, sq_rt, sq_bk, sq_ct, rn_nx, rn_rt, evAsg, startG, putNm, giveUp, Dl.at_non, Dl.at_bl, Dl.at_int, Dl.at_str, Dl.at_lst, Dl.at_tup, Dl.at_dic, Dl.mt_non, Dl.mt_bl, Dl.mt_int, Dl.mt_str, Dl.mt_lst, Dl.mt_tup, Dl.mt_dic, fre, esc, escs, esci, getG, asI, asB, dTru, dNot, dNeg, BOp.fo, COp.fo, Bi.fo, onOwn, evApp, evExt, evSetL, evSetD, evAug, AOp.fo, dApp, dExt, dTuple, dList, dInt, dAbs, dLen, dItems, killG, unown, offG, Tg.put, setAll, blkG, wipeG, stepC, stepF, stepD, vAnd, vOr, vChain, qc, qp', C1, C2, C3, s1, s2, ml, se, an, e1, e2, e3, f1, Bi.fr, -List.map_drop], by simp -implicitDefEqProofs -dsimp [e_var, e_int, e_str, e_bl, e_non, e_glb, e_bin, e_cmp, e_chain, e_neg, e_not, e_and, e_or, e_one, e_ite, e_tup, e_lst, e_dic, e_idx, e_dget, e_slc, e_get1, e_get2, e_call, e_bi, e_isa, e_comp, e_comp2, e_dcomp, es_nil, es_cons, eo_no, eo_yes, ec_no, ec_yes, ei_seq, ei_rng1, ei_rng2, s_asg, s_aug, s_setL, s_setD, s_app, s_ext, s_pop, s_ite, s_for_, s_wh, s_ret, s_retN, s_brk, s_cnt, s_pas, ss_nil, ss_cons, sq_nx, sq_rt, sq_bk, sq_ct, rn_nx, rn_rt, evAsg, startG, putNm, giveUp, Dl.at_non, Dl.at_bl, Dl.at_int, Dl.at_str, Dl.at_lst, Dl.at_tup, Dl.at_dic, Dl.mt_non, Dl.mt_bl, Dl.mt_int, Dl.mt_str, Dl.mt_lst, Dl.mt_tup, Dl.mt_dic, fre, esc, escs, esci, getG, asI, asB, dTru, dNot, dNeg, BOp.fo, COp.fo, Bi.fo, onOwn, evApp, evExt, evSetL, evSetD, evAug, AOp.fo, dApp, dExt, dTuple, dList, dInt, dAbs, dLen, dItems, killG, unown, offG, Tg.put, setAll, blkG, wipeG, stepC, stepF, stepD, vAnd, vOr, vChain], fun t ht' => ht t (by simp [ht'])⟩)
      (List.range 2) () (fun t ht => List.mem_range.mp ht)
    exact e
  have j6' : dIdx (.list (xs.map .int)) (.int 6) = some (.int xs[6]) := j6
  have wl : (.tuple [.str "ant", .str "bat", .str "cow", .str "doe", .str "eel", .str "fly", .str "gnat", .str "hen", .str "ibis", .str "jay"] : D) = wd := hwd.symm
  have wa : isAtom wd = false := by rw [hwd]; rfl
  have wm : isMut wd = false := by rw [hwd]; rfl
  have q0' : den G Pf 39 7 [sc, .int 0] = some (.int c0) := by rw [hsc]; exact q0
  have q1' : den G Pf 39 8 [.int c0, .int 40] = some (.list (xs.map .int)) := q1
  show den G Pf 40 19 [.list (ns.map .int)] = _
  rw [← hsc]
  rw [den_eq (fd := F_law) (by omega) rfl rfl]
  show (evSs G (den G Pf 39) F_law.body _).bind runF = _
  simp -implicitDefEqProofs -dsimp [F_law, b_law, e_var, e_int, e_str, e_bl, e_non, e_glb, e_bin, e_cmp, e_chain, e_neg, e_not, e_and, e_or, e_one, e_ite, e_tup, e_lst, e_dic, e_idx, e_dget, e_slc, e_get1, e_get2, e_call, e_bi, e_isa, e_comp, e_comp2, e_dcomp, es_nil, es_cons, eo_no, eo_yes, ec_no, ec_yes, ei_seq, ei_rng1, ei_rng2, s_asg, s_aug, s_setL, s_setD, s_app, s_ext, s_pop, s_ite, s_for_, s_wh, s_ret, s_retN, s_brk, s_cnt, s_pas, ss_nil, ss_cons, sq_nx, sq_rt, sq_bk, sq_ct, rn_nx, rn_rt, evAsg, startG, putNm, giveUp, Dl.at_non, Dl.at_bl, Dl.at_int, Dl.at_str, Dl.at_lst, Dl.at_tup, Dl.at_dic, Dl.mt_non, Dl.mt_bl, Dl.mt_int, Dl.mt_str, Dl.mt_lst, Dl.mt_tup, Dl.mt_dic, fre, esc, escs, esci, getG, asI, asB, dTru, dNot, dNeg, BOp.fo, COp.fo, Bi.fo, onOwn, evApp, evExt, evSetL, evSetD, evAug, AOp.fo, dApp, dExt, dTuple, dList, dInt, dAbs, dLen, dItems, killG, unown, offG, Tg.put, setAll, blkG, wipeG, stepC, stepF, stepD, vAnd, vOr, vChain, q0', q1', q2, A1, A2, A3, j6', m6, fit, wl, wa, wm]
end K47


set_option maxHeartbeats 0
open PySem PySem.W PySem.Calls PyProof.Rows
theorem PySem.Challenge.cw_wordmoot_k47_whole_searches_with_one_lie_holds : PySem.Challenge.rw_wordmoot_k47_whole_searches_with_one_lie.Holds := by
  w_on; o_law
  refine HandSHeadRun.head_any (r := OpenLaw.row PySem.Challenge.rw_wordmoot_k47_whole_searches_with_one_lie) (q := view (OpenLaw.row PySem.Challenge.rw_wordmoot_k47_whole_searches_with_one_lie).prog [21]) (H := K47.hk) (ob := K47.ob) (M := 20000) (loose := K47.loose) (d := HandSHeadRun.topDef (OpenLaw.row PySem.Challenge.rw_wordmoot_k47_whole_searches_with_one_lie).prog 21) (kwd := []) K47.ob_eq
    (by kernel_rfl) (fun s => by kernel_rfl) K47.run (by kernel_rfl) (by kernel_rfl) (by kernel_rfl) (by rfl) (by first | assumption | decide +kernel) (by decide +kernel) ⟨rfl, rfl, rfl, rfl, rfl, by decide +kernel⟩ ?hw ?hc
  case hw => w_witness2
  case hc =>
    refine L2.walk_ofE (l := PySem.Challenge.rw_wordmoot_k47_whole_searches_with_one_lie) (n := 63) (k := 40) (x := "script") (CX := L2.CX0) rfl (by decide) (by kernel_rfl) ⟨rfl, by decide, by decide⟩ ?F (fun _ _ _ _ z => z)
    intro w mg fa h Y G hmg0
    obtain ⟨K, KX, c⟩ := Y
    have hmg : mg ("law" : PySem.Str) = some (.ref fa) := by
      have e : (HandSHeadRun.topDef (OpenLaw.row PySem.Challenge.rw_wordmoot_k47_whole_searches_with_one_lie).prog 21).name = ("law" : PySem.Str) := by kernel_rfl
      rw [← e]
      exact hmg0
    exact Dl.law_end (P := (PySem.Challenge.rw_wordmoot_k47_whole_searches_with_one_lie).prog) (w := w) (k := 40) K47.chk_all K47.bind_all KX G hmg c (i := K47.iLaw) (fd := K47.F_law) rfl rfl rfl rfl K47.law_true
