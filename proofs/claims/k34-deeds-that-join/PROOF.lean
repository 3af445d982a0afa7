import PyProof.Rows.All
import Wide.All
import OpenK.AllK
import Wide.FinOn
import HandS.ForMost
import HandS.Exc
import HandS.ExcOwn
import HandS.ExcInit
import HandS.TryOnly
import HandS.TryMany
import HandS.Flow
import HandS.IsInst
import HandS.HeadHook4
import HandS.HeadWalk
import HandS.HeadEnd
import HandS.Head2
import HandS.TupAny
import HandS.Wide
import HandS.Conv
import HandS.Zip
import HandS.Style
import PyProof.NeKinds
import HandS.Text
import HandS.Small
import HandS.Defaults
import HandS.EndBits
import HandS.Head0
import HandS.Head1
import PySem.Challenge.RW_roundweave_k34_deeds_that_join
set_option Elab.async false
set_option linter.all false
set_option maxRecDepth 100000
set_option maxHeartbeats 4000000
/-! the deep layer: values, heaps, what stands for what -/
namespace DL
open PySem PySem.Spec PyProof.Rows L2

inductive D where
  | non | bl (b : Bool) | int (i : Int) | str (x : Str)
  | tup (xs : List D) | lst (xs : List D) | dct (ks vs : List D) | obj (C : Str) (ns : List Str) (vs : List D)
  | ref (n : Nat) | fn (x : Str)
  deriving Inhabited

inductive O where
  | lst (xs : List D) | dct (ks vs : List D) | ins (C : Str) (ns : List Str) (vs : List D) | gone
  deriving Inhabited

def O.live : O → Bool
  | .gone => false
  | _ => true

abbrev G := List O

structure Exn where
  cls : Str
  ns : List Str
  vs : List D
  deriving Inhabited

inductive R (α : Type) where
  | ok (a : α) (g : G)
  | ex (e : Exn) (g : G)
  | bad

abbrev M (α : Type) := G → R α

def R.bind {α β : Type} (r : R α) (k : α → M β) : R β :=
  match r with
  | .ok a g => k a g
  | .ex e g => .ex e g
  | .bad => .bad

instance : Monad M where
  pure a := fun g => .ok a g
  bind m k := fun g => (m g).bind k

def M.bad {α : Type} : M α := fun _ => .bad
def M.raise {α : Type} (e : Exn) : M α := fun g => .ex e g

theorem bind_def {α β : Type} (m : M α) (k : α → M β) (g : G) : (m >>= k) g = (m g).bind k := rfl
theorem pure_def {α : Type} (a : α) (g : G) : (pure a : M α) g = .ok a g := rfl

/-- the addresses that are owned -/
def Own (mu : List Addr) (g : G) (a : Addr) : Prop := ∃ (n : Nat) (o : O), mu[n]? = some a ∧ g[n]? = some o ∧ o.live = true

/-- a tuple, a list that nobody changes any more -/
def TupAt (K : PySem.W.Frag) (own : Addr → Prop) (H : Hp) (a : Addr) (vs : List V) : Prop :=
  (¬ own a ∧ Rd H a (.tup vs)) ∨ ∃ (o : Obj) (its : Array Value) (n : Nat), K.lookup a = some o ∧ o.cls = .type "tuple" ∧ o.data = .seq its n ∧ its.size ≤ sizeLine ∧ Vals vs its.toList
def LstAt (K : PySem.W.Frag) (own : Addr → Prop) (H : Hp) (a : Addr) (vs : List V) : Prop :=
  (¬ own a ∧ Rd H a (.lst vs)) ∨ ∃ (o : Obj) (its : Array Value) (n : Nat), K.lookup a = some o ∧ o.cls = .type "list" ∧ o.dict = none ∧ o.data = .seq its n ∧ its.size ≤ sizeLine ∧ Vals vs its.toList
theorem TupAt.seq {K : PySem.W.Frag} {own : Addr → Prop} {H : Hp} {a : Addr} {vs : List V} (h : TupAt K own H a vs) : SqT K H a vs :=
  h.elim (fun z => .inl z.2) .inr
theorem LstAt.seq {K : PySem.W.Frag} {own : Addr → Prop} {H : Hp} {a : Addr} {vs : List V} (h : LstAt K own H a vs) : SqL K H a vs :=
  h.elim (fun z => .inl z.2) .inr

mutual
inductive RV (K : PySem.W.Frag) (own : Addr → Prop) (mu : List Addr) (H : Hp) : V → D → Prop
  | non : RV K own mu H .non .non
  | bl (b : Bool) : RV K own mu H (.bl b) (.bl b)
  | int (i : Int) : RV K own mu H (.int i) (.int i)
  | str (x : Str) : RV K own mu H (.str x) (.str x)
  | tup {a : Addr} {vs : List V} {ds : List D} : TupAt K own H a vs → RVs K own mu H vs ds → RV K own mu H (.ref a) (.tup ds)
  | lst {a : Addr} {vs : List V} {ds : List D} : LstAt K own H a vs → RVs K own mu H vs ds → RV K own mu H (.ref a) (.lst ds)
  | dct {a : Addr} {o : Obj} {kvs : List (Key × V)} {ks ds : List D} : ¬ own a → H a = some (.frz o (.dK kvs)) → RVs K own mu H (kvs.map fun p => kV p.1) ks → RVs K own mu H (kvs.map (·.2)) ds → RV K own mu H (.ref a) (.dct ks ds)
  | obj {a dx : Addr} {C : Str} {fs : List (Str × V)} {ds : List D} : ¬ own a → H a = some (.ins (He.ga K C) dx fs) → RVs K own mu H (fs.map (·.2)) ds → RV K own mu H (.ref a) (.obj C (fs.map (·.1)) ds)
  | ref {n : Nat} {a : Addr} : mu[n]? = some a → RV K own mu H (.ref a) (.ref n)
  | fn (x : Str) : RV K own mu H (.ref (He.ga K x)) (.fn x)
inductive RVs (K : PySem.W.Frag) (own : Addr → Prop) (mu : List Addr) (H : Hp) : List V → List D → Prop
  | nil : RVs K own mu H [] []
  | cons {v : V} {vs : List V} {d : D} {ds : List D} : RV K own mu H v d → RVs K own mu H vs ds → RVs K own mu H (v :: vs) (d :: ds)
end

theorem pre_get {α : Type} {l l' : List α} {i : Nat} {x : α} (h : l <+: l') (e : l[i]? = some x) : l'[i]? = some x := by
  obtain ⟨t, rfl⟩ := h
  obtain ⟨hi, _⟩ := List.getElem?_eq_some_iff.mp e
  rw [List.getElem?_append_left hi]
  exact e
section
variable {K : PySem.W.Frag} {own own' : Addr → Prop} {mu mu' : List Addr} {H H' : Hp}

theorem TupAt.mono (hf : ∀ a o, H a = some o → ¬ own a → H' a = some o) (ho : ∀ a, own' a → own a ∨ H a = none) {a : Addr} {vs : List V} (h : TupAt K own H a vs) : TupAt K own' H' a vs := by
  rcases h with ⟨h1, h2⟩ | h
  · left
    have hx : ∃ o, H a = some o := by
      rcases h2 with h | ⟨o, h⟩
      · exact ⟨_, h⟩
      · exact ⟨_, h⟩
    obtain ⟨o, hx⟩ := hx
    refine ⟨fun z => ?_, ?_⟩
    · rcases ho a z with q | q
      · exact h1 q
      · rw [hx] at q; cases q
    · rcases h2 with h | ⟨o, h⟩
      · exact .inl (hf _ _ h h1)
      · exact .inr ⟨o, hf _ _ h h1⟩
  · exact .inr h
theorem LstAt.mono (hf : ∀ a o, H a = some o → ¬ own a → H' a = some o) (ho : ∀ a, own' a → own a ∨ H a = none) {a : Addr} {vs : List V} (h : LstAt K own H a vs) : LstAt K own' H' a vs := by
  rcases h with ⟨h1, h2⟩ | h
  · left
    have hx : ∃ o, H a = some o := by
      rcases h2 with h | ⟨o, h⟩
      · exact ⟨_, h⟩
      · exact ⟨_, h⟩
    obtain ⟨o, hx⟩ := hx
    refine ⟨fun z => ?_, ?_⟩
    · rcases ho a z with q | q
      · exact h1 q
      · rw [hx] at q; cases q
    · rcases h2 with h | ⟨o, h⟩
      · exact .inl (hf _ _ h h1)
      · exact .inr ⟨o, hf _ _ h h1⟩
  · exact .inr h
theorem nown_mono (ho : ∀ a, own' a → own a ∨ H a = none) {a : Addr} {o : HO} (h1 : ¬ own a) (h2 : H a = some o) : ¬ own' a := fun z => by
  rcases ho a z with q | q
  · exact h1 q
  · rw [h2] at q; cases q
mutual
theorem RV.mono (hf : ∀ a o, H a = some o → ¬ own a → H' a = some o) (ho : ∀ a, own' a → own a ∨ H a = none) (hm : mu <+: mu') : ∀ {d : D} {v : V}, RV K own mu H v d → RV K own' mu' H' v d
  | _, _, .non => .non
  | _, _, .bl b => .bl b
  | _, _, .int i => .int i
  | _, _, .str x => .str x
  | _, _, .tup h r => .tup (h.mono hf ho) (RVs.mono hf ho hm r)
  | _, _, .lst h r => .lst (h.mono hf ho) (RVs.mono hf ho hm r)
  | _, _, .dct h1 h2 r r' => .dct (nown_mono ho h1 h2) (hf _ _ h2 h1) (RVs.mono hf ho hm r) (RVs.mono hf ho hm r')
  | _, _, .obj h1 h2 r => .obj (nown_mono ho h1 h2) (hf _ _ h2 h1) (RVs.mono hf ho hm r)
  | _, _, .ref h => .ref (pre_get hm h)
  | _, _, .fn x => .fn x
theorem RVs.mono (hf : ∀ a o, H a = some o → ¬ own a → H' a = some o) (ho : ∀ a, own' a → own a ∨ H a = none) (hm : mu <+: mu') : ∀ {ds : List D} {vs : List V}, RVs K own mu H vs ds → RVs K own' mu' H' vs ds
  | _, _, .nil => .nil
  | _, _, .cons h r => .cons (RV.mono hf ho hm h) (RVs.mono hf ho hm r)
end
end
/-! ### the heaps -/
section
variable (K : PySem.W.Frag)
/-- what stands at an address that the heap g has -/
def OR (own : Addr → Prop) (mu : List Addr) (H : Hp) (a : Addr) : O → Prop
  | .lst ds => ∃ vs, H a = some (.lst vs) ∧ RVs K own mu H vs ds
  | .dct ks ds => ∃ kvs : List (Key × V), H a = some (.dK kvs) ∧ RVs K own mu H (kvs.map fun p => kV p.1) ks ∧ RVs K own mu H (kvs.map (·.2)) ds
  | .ins C ns ds => ∃ dx fs, H a = some (.ins (He.ga K C) dx fs) ∧ fs.map (·.1) = ns ∧ RVs K own mu H (fs.map (·.2)) ds
  | .gone => ∃ o, H a = some o

structure Sim (mu : List Addr) (g : G) (H : Hp) : Prop where
  len : mu.length = g.length
  nd : mu.Nodup
  at_ : ∀ (n : Nat) (o : O) (a : Addr), g[n]? = some o → mu[n]? = some a → OR K (Own mu g) mu H a o

structure Ext (mu : List Addr) (g : G) (H : Hp) (mu' : List Addr) (g' : G) (H' : Hp) : Prop where
  pre : mu <+: mu'
  fr : ∀ a o, H a = some o → ¬ Own mu g a → H' a = some o
  ow : ∀ a, Own mu' g' a → Own mu g a ∨ H a = none
  th : ∀ a o, H a = some o → ∃ o', H' a = some o'
end
section
variable {K : PySem.W.Frag} {mu mu1 mu2 : List Addr} {g g1 g2 : G} {H H1 H2 : Hp}
theorem Ext.refl : Ext mu g H mu g H := ⟨List.prefix_refl _, fun _ _ h _ => h, fun _ h => .inl h, fun _ o h => ⟨o, h⟩⟩
theorem Ext.trans (a : Ext mu g H mu1 g1 H1) (b : Ext mu1 g1 H1 mu2 g2 H2) : Ext mu g H mu2 g2 H2 where
  pre := a.pre.trans b.pre
  fr := fun x o h n => b.fr x o (a.fr x o h n) fun z => by
    rcases a.ow x z with q | q
    · exact n q
    · rw [h] at q; cases q
  ow := fun x z => by
    rcases b.ow x z with q | q
    · exact a.ow x q
    · right
      cases e : H x with
      | none => rfl
      | some o =>
        obtain ⟨o', e'⟩ := a.th x o e
        rw [q] at e'; cases e'
  th := fun x o h => by
    obtain ⟨o', h'⟩ := a.th x o h
    exact b.th x o' h'
theorem RV.ext (e : Ext mu g H mu1 g1 H1) {d : D} {v : V} (h : RV K (Own mu g) mu H v d) : RV K (Own mu1 g1) mu1 H1 v d := h.mono e.fr e.ow e.pre
theorem RVs.ext (e : Ext mu g H mu1 g1 H1) {ds : List D} {vs : List V} (h : RVs K (Own mu g) mu H vs ds) : RVs K (Own mu1 g1) mu1 H1 vs ds := h.mono e.fr e.ow e.pre
/-- the names' values -/
structure RE (K : PySem.W.Frag) (own : Addr → Prop) (mu : List Addr) (H : Hp) (σ : L2.St) (ρ : List (Option D)) : Prop where
  len : σ.length = ρ.length
  at_ : ∀ (i : Nat) (d : D), ρ[i]? = some (some d) → ∃ v, σ[i]? = some (some v) ∧ RV K own mu H v d
theorem RE.ext (e : Ext mu g H mu1 g1 H1) {σ : L2.St} {ρ : List (Option D)} (h : RE K (Own mu g) mu H σ ρ) : RE K (Own mu1 g1) mu1 H1 σ ρ :=
  ⟨h.len, fun i d q => let ⟨v, q1, q2⟩ := h.at_ i d q; ⟨v, q1, q2.ext e⟩⟩
theorem Sim.tracked (S : Sim K mu g H) {n : Nat} {a : Addr} (h : mu[n]? = some a) : ∃ o, H a = some o := by
  have hn : n < g.length := by
    rw [← S.len]
    exact (List.getElem?_eq_some_iff.mp h).1
  have q := S.at_ n g[n] a (List.getElem?_eq_getElem hn) h
  cases e : g[n] with
  | lst ds => rw [e] at q; obtain ⟨vs, q, _⟩ := q; exact ⟨_, q⟩
  | dct ks ds => rw [e] at q; obtain ⟨vs, q, _⟩ := q; exact ⟨_, q⟩
  | ins C ns ds => rw [e] at q; obtain ⟨dx, vs, q, _⟩ := q; exact ⟨_, q⟩
  | gone => rw [e] at q; exact q
/-- a new object that nobody owns -/
theorem Ext.new {p : Addr} {o : HO} (hp : H p = none) : Ext mu g H mu g (upd H p o) :=
  ⟨List.prefix_refl _, fun a u h _ => by rw [upd_ne (ne_of_none h hp)]; exact h, fun _ h => .inl h, fun a u h => ⟨u, by rw [upd_ne (ne_of_none h hp)]; exact h⟩⟩
theorem OR.ext (e : Ext mu g H mu1 g1 H1) {a : Addr} {o : O} (h : OR K (Own mu g) mu H a o) (hk : ∀ u, H a = some u → H1 a = some u) : OR K (Own mu1 g1) mu1 H1 a o := by
  cases o with
  | lst ds => obtain ⟨vs, q, r⟩ := h; exact ⟨vs, hk _ q, r.ext e⟩
  | dct ks ds => obtain ⟨vs, q, r, r'⟩ := h; exact ⟨vs, hk _ q, r.ext e, r'.ext e⟩
  | ins C ns ds => obtain ⟨dx, vs, q, n, r⟩ := h; exact ⟨dx, vs, hk _ q, n, r.ext e⟩
  | gone => obtain ⟨u, q⟩ := h; exact ⟨u, hk _ q⟩
theorem Sim.new (S : Sim K mu g H) {p : Addr} {o : HO} (hp : H p = none) : Sim K mu g (upd H p o) :=
  ⟨S.len, S.nd, fun n x a hg hm => (S.at_ n x a hg hm).ext (Ext.new hp) fun u hu => by rw [upd_ne (ne_of_none hu hp)]; exact hu⟩
theorem Sim.nown_fresh (S : Sim K mu g H) {p : Addr} (hp : H p = none) : ¬ Own mu g p := fun ⟨n, o, h, _⟩ => by
  obtain ⟨u, q⟩ := S.tracked h
  rw [hp] at q; cases q
theorem own_app {p : Addr} {x : O} (hl : mu.length = g.length) {a : Addr} (h : Own (mu ++ [p]) (g ++ [x]) a) : Own mu g a ∨ a = p := by
  obtain ⟨n, o, h1, h2, h3⟩ := h
  by_cases hn : n < mu.length
  · rw [List.getElem?_append_left hn] at h1
    rw [List.getElem?_append_left (by omega)] at h2
    exact .inl ⟨n, o, h1, h2, h3⟩
  · right
    have hn2 : n < (mu ++ [p]).length := (List.getElem?_eq_some_iff.mp h1).1
    have : n = mu.length := by rw [List.length_append] at hn2; simp at hn2; omega
    subst this
    simp at h1
    exact h1.symm
/-- a new object that is owned -/
theorem Ext.alloc (hl : mu.length = g.length) {p : Addr} {o : HO} {x : O} (hp : H p = none) : Ext mu g H (mu ++ [p]) (g ++ [x]) (upd H p o) :=
  ⟨List.prefix_append _ _, fun a u h _ => by rw [upd_ne (ne_of_none h hp)]; exact h, fun a h => (own_app hl h).elim .inl fun e => .inr (by rw [e]; exact hp), fun a u h => ⟨u, by rw [upd_ne (ne_of_none h hp)]; exact h⟩⟩
theorem Sim.alloc (S : Sim K mu g H) {p : Addr} {o : HO} {x : O} (hp : H p = none) (hx : OR K (Own (mu ++ [p]) (g ++ [x])) (mu ++ [p]) (upd H p o) p x) : Sim K (mu ++ [p]) (g ++ [x]) (upd H p o) where
  len := by simp [S.len]
  nd := by
    rw [List.nodup_append]
    refine ⟨S.nd, by simp, fun a ha b hb => ?_⟩
    have : b = p := by simpa using hb
    subst this
    intro e
    subst e
    obtain ⟨n, hn⟩ := List.mem_iff_getElem?.mp ha
    obtain ⟨u, q⟩ := S.tracked hn
    rw [hp] at q; cases q
  at_ := fun n u a hg hm => by
    by_cases hn : n < mu.length
    · rw [List.getElem?_append_left hn] at hm
      rw [List.getElem?_append_left (by rw [← S.len]; exact hn)] at hg
      exact (S.at_ n u a hg hm).ext (Ext.alloc S.len hp) fun w hw => by rw [upd_ne (ne_of_none hw hp)]; exact hw
    · have hn2 : n < (mu ++ [p]).length := (List.getElem?_eq_some_iff.mp hm).1
      have e : n = mu.length := by rw [List.length_append] at hn2; simp at hn2; omega
      subst e
      rw [S.len] at hg
      simp at hm hg
      subst hm hg
      exact hx
theorem own_set {n : Nat} {x y : O} (hx : g[n]? = some x) (hlx : x.live = true) {a : Addr} (h : Own mu (g.set n y) a) : Own mu g a := by
  obtain ⟨m, o, h1, h2, h3⟩ := h
  by_cases e : m = n
  · subst e
    exact ⟨m, x, h1, hx, hlx⟩
  · rw [List.getElem?_set_ne (Ne.symm e)] at h2
    exact ⟨m, o, h1, h2, h3⟩
/-- an owned object is changed -/
theorem Ext.set {n : Nat} {p : Addr} {x y : O} {o : HO} (hx : g[n]? = some x) (hlx : x.live = true) (hm : mu[n]? = some p) : Ext mu g H mu (g.set n y) (upd H p o) :=
  ⟨List.prefix_refl _, fun a u h k => by
    have ne : a ≠ p := fun e => k (by rw [e]; exact ⟨n, x, hm, hx, hlx⟩)
    rw [upd_ne ne]; exact h, fun a h => .inl (own_set hx hlx h), fun a u h => by
    by_cases e : a = p
    · subst e; exact ⟨o, upd_same⟩
    · exact ⟨u, by rw [upd_ne e]; exact h⟩⟩
theorem Sim.set (S : Sim K mu g H) {n : Nat} {p : Addr} {x y : O} {o : HO} (hx : g[n]? = some x) (hlx : x.live = true) (hm : mu[n]? = some p) (hy : OR K (Own mu (g.set n y)) mu (upd H p o) p y) : Sim K mu (g.set n y) (upd H p o) where
  len := by rw [List.length_set]; exact S.len
  nd := S.nd
  at_ := fun m u a hg hma => by
    by_cases e : m = n
    · subst e
      have hmn : m < g.length := (List.getElem?_eq_some_iff.mp hx).1
      rw [List.getElem?_set_self hmn] at hg
      cases hg
      rw [hm] at hma; cases hma
      exact hy
    · rw [List.getElem?_set_ne (Ne.symm e)] at hg
      refine (S.at_ m u a hg hma).ext (Ext.set hx hlx hm) fun w hw => ?_
      rw [upd_ne ?_]
      · exact hw
      · intro z
        subst z
        obtain ⟨h1, e1⟩ := List.getElem?_eq_some_iff.mp hma
        obtain ⟨h2, e2⟩ := List.getElem?_eq_some_iff.mp hm
        exact e ((List.getElem_inj S.nd).mp (e1.trans e2.symm))
/-- an owned object is let go: it stays as it is -/
theorem Ext.gone {n : Nat} {x : O} (hx : g[n]? = some x) (hlx : x.live = true) : Ext mu g H mu (g.set n .gone) H :=
  ⟨List.prefix_refl _, fun _ _ h _ => h, fun a h => .inl (own_set hx hlx h), fun _ u h => ⟨u, h⟩⟩
theorem Sim.gone (S : Sim K mu g H) {n : Nat} {p : Addr} {x : O} (hx : g[n]? = some x) (hlx : x.live = true) (hm : mu[n]? = some p) : Sim K mu (g.set n .gone) H where
  len := by rw [List.length_set]; exact S.len
  nd := S.nd
  at_ := fun m u a hg hma => by
    by_cases e : m = n
    · subst e
      have hmn : m < g.length := (List.getElem?_eq_some_iff.mp hx).1
      rw [List.getElem?_set_self hmn] at hg
      cases hg
      exact S.tracked hma
    · rw [List.getElem?_set_ne (Ne.symm e)] at hg
      exact (S.at_ m u a hg hma).ext (Ext.gone hx hlx) fun w hw => hw
theorem nown_gone (S : Sim K mu g H) {n : Nat} {p : Addr} (hm : mu[n]? = some p) : ¬ Own mu (g.set n .gone) p := fun ⟨m, o, h1, h2, h3⟩ => by
  have e : m = n := by
    obtain ⟨h1', e1⟩ := List.getElem?_eq_some_iff.mp h1
    obtain ⟨h2', e2⟩ := List.getElem?_eq_some_iff.mp hm
    exact (List.getElem_inj S.nd).mp (e1.trans e2.symm)
  subst e
  have hmn : m < g.length := by rw [← S.len]; exact (List.getElem?_eq_some_iff.mp hm).1
  rw [List.getElem?_set_self hmn] at h2
  cases h2
  cases h3
end

end DL

set_option Elab.async false
set_option linter.all false
set_option maxRecDepth 100000
set_option maxHeartbeats 4000000
/-! the deep layer: readings -/
namespace DL
open PySem PySem.Spec PyProof.Rows L2

/-- what stands for an exception: its class, its own dict -/
def XR (K : PySem.W.Frag) (own : Addr → Prop) (mu : List Addr) (H : Hp) (e : Exn) : Option Addr → Prop
  | none => e.ns = [] ∧ e.vs = []
  | some d => ∃ fs : List (Str × V), H d = some (.xd fs) ∧ ¬ own d ∧ fs.map (·.1) = e.ns ∧ RVs K own mu H (fs.map (·.2)) e.vs

def Wp {α : Type} (K : PySem.W.Frag) (X : XK) (mu : List Addr) (g : G) (H : Hp) (r : R α) (Q : List Addr → G → Hp → α → Prop) : Prop :=
  match r with
  | .ok a g' => ∀ mu' H', Ext mu g H mu' g' H' → Sim K mu' g' H' → Q mu' g' H' a
  | .ex e g' => ∀ mu' H' dx, Ext mu g H mu' g' H' → Sim K mu' g' H' → XR K (Own mu' g') mu' H' e dx → X (.ref (He.ga K e.cls)) dx H'
  | .bad => False
section
variable {α β : Type} {K : PySem.W.Frag} {X : XK} {mu mu1 : List Addr} {g g1 : G} {H H1 : Hp} {r : R α} {Q Q' : List Addr → G → Hp → α → Prop}
theorem Wp.mono (h : Wp K X mu g H r Q) (hq : ∀ mu' g' H' a, Ext mu g H mu' g' H' → Sim K mu' g' H' → Q mu' g' H' a → Q' mu' g' H' a) : Wp K X mu g H r Q' := by
  cases r with
  | ok a g' => exact fun mu' H' e s => hq _ _ _ _ e s (h mu' H' e s)
  | ex e g' => exact h
  | bad => exact h
/-- the state goes on -/
theorem Wp.ext (e : Ext mu g H mu1 g1 H1) (h : Wp K X mu g H r Q) : Wp K X mu1 g1 H1 r Q := by
  cases r with
  | ok a g' => exact fun mu' H' e' s => h mu' H' (e.trans e') s
  | ex x g' => exact fun mu' H' dx e' s => h mu' H' dx (e.trans e') s
  | bad => exact h
theorem Wp.bind {m : M α} {k : α → M β} {Q : List Addr → G → Hp → β → Prop} (h : Wp K X mu g H ((m g).bind k) Q) : Wp K X mu g H (m g) (fun mu' g' H' a => Wp K X mu' g' H' (k a g') Q) := by
  cases e : m g with
  | ok a g' =>
    rw [e] at h
    exact fun mu' H' e' s => Wp.ext e' h
  | ex x g' =>
    rw [e] at h
    exact h
  | bad =>
    rw [e] at h
    exact h
theorem Wp.here (S : Sim K mu g H) {a : α} (h : Wp K X mu g H (.ok a g) Q) : Q mu g H a := h _ _ .refl S
end

/-- wishes of exceptions with the slots -/
abbrev Env' := List (Option D)
abbrev FE := Env' → M D
/-- an expression's reading by a function -/
def tE (K : PySem.W.Frag) (W : WX) (F : FE) : TE := fun σ H Q => ∃ mu g ρ, Sim K mu g H ∧ RE K (Own mu g) mu H σ ρ ∧
  Wp K (fun c d H => W c d σ H) mu g H (F ρ g) fun mu' g' H' d => ∀ v, RV K (Own mu' g') mu' H' v d → Q v H'
def tT (K : PySem.W.Frag) (W : WX) (F : Env' → M Bool) : TT := fun σ H Q => ∃ mu g ρ, Sim K mu g H ∧ RE K (Own mu g) mu H σ ρ ∧
  Wp K (fun c d H => W c d σ H) mu g H (F ρ g) fun mu' g' H' b => Q b H'
def tA (K : PySem.W.Frag) (W : WX) (F : Env' → M (List D)) : TA := fun σ H Q => ∃ mu g ρ, Sim K mu g H ∧ RE K (Own mu g) mu H σ ρ ∧
  Wp K (fun c d H => W c d σ H) mu g H (F ρ g) fun mu' g' H' ds => ∀ vs, RVs K (Own mu' g') mu' H' vs ds → Q vs H'

inductive Fl where
  | nx | bk | ct | rt (d : D) | rs (e : Exn)
abbrev FS := Env' → M (Fl × Env')
/-- a statement's end -/
def flEnd (K : PySem.W.Frag) (W : WX) (D' : Ends) (mu : List Addr) (g : G) (H : Hp) : Fl × Env' → Prop
  | (.nx, ρ) => ∀ σ, RE K (Own mu g) mu H σ ρ → D'.nx σ H
  | (.bk, ρ) => ∀ σ, RE K (Own mu g) mu H σ ρ → D'.bk σ H
  | (.ct, ρ) => ∀ σ, RE K (Own mu g) mu H σ ρ → D'.ct σ H
  | (.rt d, _) => ∀ v, RV K (Own mu g) mu H v d → D'.rt v H
  | (.rs e, ρ) => ∀ σ dx, RE K (Own mu g) mu H σ ρ → XR K (Own mu g) mu H e dx → W (.ref (He.ga K e.cls)) dx σ H
def tS (K : PySem.W.Frag) (W : WX) (F : FS) : TS := fun D' σ H => ∃ mu g ρ, Sim K mu g H ∧ RE K (Own mu g) mu H σ ρ ∧
  Wp K (fun _ _ _ => False) mu g H (F ρ g) fun mu' g' H' x => flEnd K W D' mu' g' H' x

section
variable {X : Cx}
theorem pe_mono {e : Expr} {t t' : TE} (h : PE X e t) (m : ∀ σ H Q, t' σ H Q → t σ H Q) : PE X e t' := ⟨fun pins s σ H Q I q => h.run pins s σ H Q I (m σ H Q q)⟩
theorem pt_mono {e : Expr} {t t' : TT} (h : PT X e t) (m : ∀ σ H Q, t' σ H Q → t σ H Q) : PT X e t' := ⟨fun pins s σ H Q I q => h.run pins s σ H Q I (m σ H Q q)⟩
theorem pw_mono {e : Expr} {t t' : TT} (h : PW X e t) (m : ∀ σ H Q, t' σ H Q → t σ H Q) : PW X e t' := ⟨fun whole pins s σ H Q I q => h.run whole pins s σ H Q I (m σ H Q q)⟩
theorem pa_mono {e : List Expr} {t t' : TA} (h : PA X e t) (m : ∀ σ H Q, t' σ H Q → t σ H Q) : PA X e t' := ⟨fun pos pins s σ H Q I q => h.run pos pins s σ H Q I (m σ H Q q)⟩
theorem ps_mono {e : Stmt} {t t' : TS} (h : PS X e t) (m : ∀ D' σ H, t' D' σ H → t D' σ H) : PS X e t' := ⟨fun pins s σ H Q I q => h.run pins s σ H Q I (m Q σ H q)⟩
theorem pss_mono {e : List Stmt} {t t' : TS} (h : PSs X e t) (m : ∀ D' σ H, t' D' σ H → t D' σ H) : PSs X e t' := ⟨fun pins s σ H Q I q => h.run pins s σ H Q I (m Q σ H q)⟩
theorem pe_bad {e : Expr} {t : TE} (m : ∀ σ H Q, ¬ t σ H Q) : PE X e t := ⟨fun pins s σ H Q I q => (m σ H Q q).elim⟩
end
end DL

set_option Elab.async false
set_option linter.all false
set_option maxRecDepth 100000
set_option maxHeartbeats 4000000
/-! the deep layer: the fragment and what it means -/
namespace DL
open PySem PySem.Spec PyProof.Rows L2

/-! ### operations on values -/
/-- what can be read of a value -/
def rd (g : G) : D → D
  | .ref n => match g[n]? with
    | some (.lst ds) => .lst ds
    | some (.dct ks vs) => .dct ks vs
    | some (.ins C ns vs) => .obj C ns vs
    | _ => .ref n
  | d => d

def kindD : D → Nat
  | .non => 0 | .bl _ => 1 | .int _ => 1 | .str _ => 2 | .tup _ => 3 | .lst _ => 4 | _ => 9
mutual
/-- == -/
def eqO : D → D → Option Bool
  | .non, .non => some true
  | .bl a, .bl b => some (a == b)
  | .bl a, .int j => some ((if a then 1 else 0) == j)
  | .int i, .bl b => some (i == (if b then 1 else 0))
  | .int i, .int j => some (i == j)
  | .str x, .str y => some (x == y)
  | .tup xs, .tup ys => eqOs xs ys
  | .lst xs, .lst ys => if xs.length = ys.length then eqOs xs ys else some false
  | x, y => if kindD x < 5 ∧ kindD y < 5 then some false else none
def eqOs : List D → List D → Option Bool
  | [], [] => some true
  | [], _ :: _ => some false
  | _ :: _, [] => some false
  | x :: xs, y :: ys => match eqO x y, eqOs xs ys with
    | some a, some b => some (a && b)
    | _, _ => none
end
mutual
def dep : D → Nat
  | .tup xs => deps xs + 1
  | .lst xs => deps xs + 1
  | _ => 0
def deps : List D → Nat
  | [] => 0
  | x :: xs => max (dep x) (deps xs)
end
def eqD (x y : D) : Option Bool := if min (dep x) (dep y) ≤ 60 then eqO x y else none

def truD : D → Option Bool
  | .non => some false
  | .bl b => some b
  | .int i => some (i != 0)
  | .str x => if x.length ≤ sizeLine then some ((x.length : Int) != 0) else none
  | .tup xs => some (!xs.isEmpty)
  | .lst xs => some (!xs.isEmpty)
  | _ => none

inductive Op2 where
  | add | sub | mul | fdiv | mod | pow
  deriving DecidableEq
def mulOk (i j : Int) : Prop := i.natAbs < 2 ^ 64 ∨ j.natAbs < 2 ^ 64 ∨ i.natAbs.log2 + j.natAbs.log2 < 1000000
instance (i j : Int) : Decidable (mulOk i j) := inferInstanceAs (Decidable (_ ∨ _ ∨ _))
def op2 : Op2 → D → D → Option D
  | .add, .int i, .int j => some (.int (i + j))
  | .add, .str x, .str y => if x.length + y.length ≤ sizeLine then some (.str (x ++ y)) else none
  | .add, .tup xs, .tup ys => if xs.length + ys.length ≤ sizeLine then some (.tup (xs ++ ys)) else none
  | .add, .lst xs, .lst ys => if xs.length + ys.length ≤ sizeLine then some (.lst (xs ++ ys)) else none
  | .sub, .int i, .int j => some (.int (i - j))
  | .mul, .int i, .int j => if mulOk i j then some (.int (i * j)) else none
  | .fdiv, .int i, .int j => if 0 < j ∧ j.natAbs.log2 < 9000 then some (.int (i / j)) else none
  | .mod, .int i, .int j => if 0 < j then some (.int (i % j)) else none
  | .pow, .int i, .int j => if 0 ≤ j ∧ j ≤ 1000000 ∧ i.natAbs < 2 ^ 64 then some (.int (i ^ j.toNat)) else none
  | _, _, _ => none

/-- op= -/
def aug2 : Op2 → D → D → Option D
  | .add, .int i, .int j => some (.int (i + j))
  | .sub, .int i, .int j => some (.int (i - j))
  | _, _, _ => none

inductive Cp where
  | eq | ne | lt | le | gt | ge | isin | notin
  deriving DecidableEq
/-- x in ys, item by item -/
def inOs (x : D) : List D → Option Bool
  | [] => some false
  | y :: ys => match eqD y x, inOs x ys with
    | some a, some b => some (a || b)
    | _, _ => none
def keyOf : D → Option Key
  | .int i => some (.inl i)
  | .str x => some (.inr x)
  | _ => none
def dOf : Key → D
  | .inl i => .int i
  | .inr x => .str x
def dlook : List D → List D → Key → Option D
  | k :: ks, v :: vs, key => if keyOf k = some key then some v else dlook ks vs key
  | _, _, _ => none
/-- one text in another -/
def strIn (x y : Str) : Bool := match x.cps.toList with
  | [c] => decide (c ∈ y.cps.toList)
  | _ => !(Builtin.Str.occurrences y x 0 y.length 1).isEmpty
def inD (x : D) : D → Option Bool
  | .tup ys => inOs x ys
  | .lst ys => inOs x ys
  | .dct ks vs => match keyOf x with
    | some k => some (dlook ks vs k).isSome
    | none => none
  | .str y => match x with
    | .str x => some (strIn x y)
    | _ => none
  | _ => none
def cmpD : Cp → D → D → Option Bool
  | .eq, x, y => eqD x y
  | .ne, x, y => (eqD x y).map (!·)
  | .lt, .int i, .int j => some (decide (i < j))
  | .le, .int i, .int j => some (decide (i ≤ j))
  | .gt, .int i, .int j => some (decide (j < i))
  | .ge, .int i, .int j => some (decide (j ≤ i))
  | .isin, x, y => inD x y
  | .notin, x, y => (inD x y).map (!·)
  | _, _, _ => none

/-- x[i] -/
def ixD (kd : Str → Str → Option D) : D → D → Option D
  | .tup xs, .int i => atI xs i
  | .lst xs, .int i => atI xs i
  | .str x, .int i => if x.length ≤ sizeLine then (atI x.cps.toList i).map fun c => .str ⟨#[c]⟩ else none
  | .dct ks vs, .int i => dlook ks vs (.inl i)
  | .dct ks vs, .str x => dlook ks vs (.inr x)
  | .fn n, .str x => kd n x
  | _, _ => none
def cutL (xs : List D) (lo hi : Option Int) : List D := (xs.drop (HT.sIx xs.length 0 lo)).take (HT.sIx xs.length xs.length hi - HT.sIx xs.length 0 lo)
def cutStr (x : Str) (lo hi : Option Int) : Str := ⟨((x.cps.toList.drop (HT.sIx x.length 0 lo)).take (HT.sIx x.length x.length hi - HT.sIx x.length 0 lo)).toArray⟩
/-- x[lo:hi] -/
def slD : D → Option Int → Option Int → Option D
  | .tup xs, lo, hi => some (.tup (cutL xs lo hi))
  | .lst xs, lo, hi => some (.lst (cutL xs lo hi))
  | .str x, lo, hi => if x.length ≤ sizeLine then some (.str (cutStr x lo hi)) else none
  | _, _, _ => none

inductive Ty where
  | bool | int | str | tuple | list | dict
  deriving DecidableEq
def isiB : D → Ty → Option Bool
  | .non, _ => some false
  | .bl _, .bool => some true | .bl _, .int => some true | .bl _, _ => some false
  | .int _, .int => some true | .int _, _ => some false
  | .str _, .str => some true | .str _, _ => some false
  | .tup _, .tuple => some true | .tup _, _ => some false
  | .lst _, .list => some true | .lst _, _ => some false
  | .dct _ _, .dict => some true | .dct _ _, _ => some false
  | _, _ => none
def isiAny (d : D) : List Ty → Option Bool
  | [] => some false
  | t :: ts => match isiB d t with
    | some true => some true
    | some false => isiAny d ts
    | none => none

/-- built-in functions -/
inductive Bi where
  | len | tuple | list (fz : Bool) | min2 | max2 | abs | all | any | sum | sortI (fz : Bool) | strI
  deriving DecidableEq
/-- methods of built-in types -/
inductive Mt where
  | append | get | join | pop
  deriving DecidableEq
def boolsOf : List D → Option (List Bool)
  | [] => some []
  | .bl b :: r => (boolsOf r).map (b :: ·)
  | _ => none
def intsOf : List D → Option (List Int)
  | [] => some []
  | .int b :: r => (intsOf r).map (b :: ·)
  | _ => none

/-- sorted ints -/
def insI (i : Int) : List Int → List Int
  | [] => [i]
  | j :: r => if i ≤ j then i :: j :: r else j :: insI i r
def sortI : List Int → List Int
  | [] => []
  | i :: r => insI i (sortI r)
def strsOf : List D → Option (List Str)
  | [] => some []
  | .str b :: r => (strsOf r).map (b :: ·)
  | _ => none

/-! ### the fragment -/
mutual
inductive E where
  | v (i : Nat) | non | bl (b : Bool) | int (i : Int) | str (x : Str) | gl (x : Str)
  | tup (es : Es) | lst (fz : Bool) (es : Es) | dct (fz : Bool) (ps : Ps)
  | bin (op : Op2) (a b : E) | neg (a : E) | not (a : E) | and (es : Es) | or (es : Es)
  | cmp (op : Cp) (a b : E) | cmp2 (op op' : Cp) (a b c : E) | isn (a : E) | notn (a : E) | ite (c a b : E)
  | ix (a b : E) | sl (a : E) (lo hi : Es) | fld (a : E) (f : Str)
  | call (f : Str) (es : Es) | callv (f : Nat) (es : Es) | mk (fz : Bool) (C : Str) (es : Es) | own (m : Str) (o : E) (es : Es)
  | bi (b : Bi) (es : Es) | mt (m : Mt) (o : E) (es : Es) | isi (a : E) (ts : List Ty) (many : Bool)
  | lc (fz : Bool) (own : List Nat) (elt : E) (t : Tg) (it : I) (ifs : Es)
  | kget (o : E) (es : Es) | bad
inductive Es where
  | nil | cons (e : E) (es : Es)
inductive Ps where
  | nil | cons (k v : E) (ps : Ps)
inductive Tg where
  | v (i : Nat) | tup (ts : Tgs) | ix (a b : E) | fld (a : E) (f : Str)
inductive Tgs where
  | nil | cons (t : Tg) (ts : Tgs)
inductive I where
  | e (a : E) | rng1 (a : E) | rng2 (a b : E) | enum (a : E) | zip (a b : E) | items (a : E) | vals (a : E)
end
mutual
inductive S where
  | ex (a : E) | ret (a : E) | retn | asg (t : Tg) (a : E) | par (is : List Nat) (es : Es) | augv (i : Nat) (op : Op2) (a : E) | augf (o : E) (f : Str) (op : Op2) (a : E)
  | iff (c : E) (a b : Ss) | forr (t : Tg) (it : I) (b : Ss) | whl (c : E) (b : Ss) | brk | cnt | pas
  | rse (C : Str) (es : Es) | frz (i : Nat) | bad
inductive Ss where
  | nil | cons (s : S) (ss : Ss)
end

def Es.len : Es → Nat
  | .nil => 0
  | .cons _ ts => ts.len + 1
def Tgs.len : Tgs → Nat
  | .nil => 0
  | .cons _ ts => ts.len + 1
def itemsD : D → Option (List D)
  | .tup ds => some ds
  | .lst ds => some ds
  | _ => none

/-! ### what it means -/
structure Cf where
  ar : Str → Option Nat
  glob : Str → Option D
  kd : Str → Str → Option D
  kt : Str → Option (List (Str × D))
  call : Str → List D → M D
  meth : Str → Str → Option Str
  fld : Str → Str → Bool
  isC : Str → Bool
  wf : Nat

def alloc (o : O) : M D := fun g => .ok (.ref g.length) (g ++ [o])
def mkL (fz : Bool) (xs : List D) : M D := match fz with
  | true => pure (.lst xs)
  | false => alloc (.lst xs)
def mkD (fz : Bool) (ks vs : List D) : M D := match fz with
  | true => pure (.dct ks vs)
  | false => alloc (.dct ks vs)
/-- what may not raise -/
def noEx {α : Type} (m : M α) : M α := fun g => match m g with
  | .ok a g' => .ok a g'
  | _ => .bad
def optM {α : Type} : Option α → M α
  | some a => pure a
  | none => M.bad
def rdM (d : D) : M D := fun g => .ok (rd g d) g
def needM (c : Prop) [Decidable c] : M Unit := if c then pure () else M.bad

/-- a slot's value -/
def slot (ρ : List (Option D)) (i : Nat) : Option D := match ρ[i]? with
  | some o => o
  | none => none
theorem slot_some {ρ : List (Option D)} {i : Nat} {d : D} (h : slot ρ i = some d) : ρ[i]? = some (some d) := by
  unfold slot at h
  cases e : ρ[i]? with
  | none => rw [e] at h; cases h
  | some o => rw [e] at h; exact congrArg some h
/-- what is gone through -/
inductive It0 where
  | fix (ds : List D) | dyn (n : Nat)
def It0.at (g : G) : It0 → Nat → Option (Option D)
  | .fix ds, i => some ds[i]?
  | .dyn n, i => match g[n]? with
    | some (.lst ds) => some ds[i]?
    | _ => none
def It0.len (g : G) : It0 → Nat
  | .fix ds => ds.length
  | .dyn n => match g[n]? with
    | some (.lst ds) => ds.length
    | _ => 0
def signsD (x : Str) : List D := x.cps.toList.map fun c => .str ⟨#[c]⟩
def itOf (g : G) : D → Option It0
  | .tup ds => some (.fix ds)
  | .lst ds => some (.fix ds)
  | .str x => some (.fix (signsD x))
  | .dct ks _ => some (.fix ks)
  | .ref n => match g[n]? with
    | some (.lst _) => some (.dyn n)
    | _ => none
  | _ => none
def itM (d : D) : M It0 := fun g => match itOf g d with
  | some it => .ok it g
  | none => .bad
def rngD (a b : Int) : List D := (List.range (b - a).toNat).map fun i => .int (a + (i : Nat))
def enumD (ds : List D) : List D := (List.range ds.length).map fun i => .tup [.int (i : Nat), ds.getD i .non]
def zipD : List D → List D → List D
  | x :: xs, y :: ys => .tup [x, y] :: zipD xs ys
  | _, _ => []
/-- a loop's turns -/
def loopS (it : It0) (body : D → Env' → M (Fl × Env')) : Nat → Nat → Env' → M (Fl × Env')
  | 0, i, ρ => fun g => match it.at g i with
    | some none => .ok (.nx, ρ) g
    | _ => .bad
  | k + 1, i, ρ => fun g => match it.at g i with
    | some none => .ok (.nx, ρ) g
    | some (some d) => (body d ρ g).bind fun x => match x with
      | (.nx, ρ') => loopS it body k (i + 1) ρ'
      | (.ct, ρ') => loopS it body k (i + 1) ρ'
      | (.bk, ρ') => pure (.nx, ρ')
      | x => pure x
    | none => .bad
/-- a comprehension's: the new list at n -/
def addTo (n : Nat) (y : D) : M Unit := fun g => match g[n]? with
  | some (.lst xs) => if xs.length < sizeLine then .ok () (g.set n (.lst (xs ++ [y]))) else .bad
  | _ => .bad
def loopC (it : It0) (n : Nat) (body : D → M (Option D)) : Nat → Nat → M Unit
  | 0, i => fun g => match it.at g i with
    | some none => .ok () g
    | _ => .bad
  | k + 1, i => fun g => match it.at g i with
    | some none => .ok () g
    | some (some d) => (noEx (body d) g).bind fun x => match x with
      | none => loopC it n body k (i + 1)
      | some y => fun g => (addTo n y g).bind fun _ => loopC it n body k (i + 1)
    | none => .bad
/-- the slots of a comprehension's own names forgotten -/
def wipeE (ρ : Env') : List Nat → Env'
  | [] => ρ
  | v :: vs => (wipeE ρ vs).set v none

/-- a dict's pairs, one put in -/
def dset : List D → List D → Key → D → List D
  | q :: ks, v :: vs, k, d => (if keyOf q = some k then d else v) :: dset ks vs k d
  | _, _, _, _ => []
def dput (ks vs : List D) (k : Key) (v : D) : List D × List D := if (dlook ks vs k).isSome = true then (ks, dset ks vs k v) else (ks ++ [dOf k], vs ++ [v])
def setItemM (x i d : D) : M Unit := fun g => match x with
  | .ref n => match g[n]? with
    | some (.lst xs) => match i with
      | .int k => match ixN xs.length k with
        | some j => .ok () (g.set n (.lst (xs.set j d)))
        | none => .bad
      | _ => .bad
    | some (.dct ks vs) => match keyOf i with
      | some k => if ks.length < sizeLine then .ok () (g.set n (.dct (dput ks vs k d).1 (dput ks vs k d).2)) else .bad
      | none => .bad
    | _ => .bad
  | _ => .bad
/-- an instance's attributes, one put in -/
def fput : List Str → List D → Str → D → List Str × List D
  | n :: ns, v :: vs, f, d => if n = f then (n :: ns, d :: vs) else (n :: (fput ns vs f d).1, v :: (fput ns vs f d).2)
  | _, _, f, d => ([f], [d])
def setFldM (fld : Str → Str → Bool) (x : D) (f : Str) (d : D) : M Unit := fun g => match x with
  | .ref n => match g[n]? with
    | some (.ins C ns vs) => match fld C f with
      | true => if ns.length < 40 then .ok () (g.set n (.ins C (fput ns vs f d).1 (fput ns vs f d).2)) else .bad
      | false => .bad
    | _ => .bad
  | _ => .bad
def flook : List Str → List D → Str → Option D
  | n :: ns, v :: vs, f => if n = f then some v else flook ns vs f
  | _, _, _ => none
def fldM (fld : Str → Str → Bool) (x : D) (f : Str) : M D := fun g => match rd g x with
  | .obj C ns vs => match fld C f with
    | true => match flook ns vs f with
      | some d => .ok d g
      | none => .bad
    | false => .bad
  | _ => .bad
def newL : M Nat := fun g => .ok g.length (g ++ [.lst []])
def endL (fz : Bool) (n : Nat) : M D := fun g => match fz with
  | false => .ok (.ref n) g
  | true => match g[n]? with
    | some (.lst xs) => .ok (.lst xs) (g.set n .gone)
    | _ => .bad
def newDct : M Nat := fun g => .ok g.length (g ++ [.dct [] []])
/-- a thing let go: what it is from now on -/
def frzM (d : D) : M D := fun g => match d with
  | .ref n => match g[n]? with
    | some (.lst xs) => .ok (.lst xs) (g.set n .gone)
    | some (.dct ks vs) => .ok (.dct ks vs) (g.set n .gone)
    | some (.ins C ns vs) => .ok (.obj C ns vs) (g.set n .gone)
    | _ => .bad
  | _ => .bad

def lenM : List D → M D
  | [x] => fun g => match rd g x with
    | .tup xs => .ok (.int xs.length) g
    | .lst xs => .ok (.int xs.length) g
    | .str x => if x.length ≤ sizeLine then .ok (.int x.length) g else .bad
    | .dct ks _ => .ok (.int ks.length) g
    | _ => .bad
  | _ => M.bad
def tupleM : List D → M D
  | [x] => fun g => match rd g x with
    | .tup xs => .ok (.tup xs) g
    | .lst xs => .ok (.tup xs) g
    | _ => .bad
  | _ => M.bad
def listM (fz : Bool) : List D → M D
  | [x] => fun g => match rd g x with
    | .tup xs => mkL fz xs g
    | .lst xs => mkL fz xs g
    | .dct ks _ => mkL fz ks g
    | _ => .bad
  | _ => M.bad
def min2M : List D → M D
  | [.int i, .int j] => pure (.int (if j < i then j else i))
  | _ => M.bad
def max2M : List D → M D
  | [.int i, .int j] => pure (.int (if j > i then j else i))
  | _ => M.bad
def absM : List D → M D
  | [.int i] => pure (.int (if i < 0 then -i else i))
  | _ => M.bad
def strIM : List D → M D
  | [.int i] => if i.natAbs.log2 < 1920 then pure (.str (toString i)) else M.bad
  | _ => M.bad
/-- of a list of bools, of ints -/
def ofBools (f : List Bool → D) : List D → M D
  | [x] => fun g => match rd g x with
    | .lst xs => match boolsOf xs with
      | some bs => .ok (f bs) g
      | none => .bad
    | _ => .bad
  | _ => M.bad
def ofInts (f : List Int → M D) : List D → M D
  | [x] => fun g => match rd g x with
    | .lst xs => match intsOf xs with
      | some bs => f bs g
      | none => .bad
    | _ => .bad
  | _ => M.bad
def sortM (fz : Bool) (ns : List Int) : M D := if ns.length < 64 then mkL fz ((sortI ns).map D.int) else M.bad
def biM : Bi → List D → M D
  | .len => lenM
  | .tuple => tupleM
  | .list fz => listM fz
  | .min2 => min2M
  | .max2 => max2M
  | .abs => absM
  | .all => ofBools fun bs => .bl (bs.all id)
  | .any => ofBools fun bs => .bl (bs.any id)
  | .sum => ofInts fun ns => pure (.int ns.sum)
  | .sortI fz => ofInts (sortM fz)
  | .strI => strIM

/-- .get of a written dict -/
def ktM (l : List (Str × D)) : List D → M D
  | [.str z] => pure ((l.lookup z).getD .non)
  | _ => M.bad
/-- is it of the method's type -/
def mtOk : Mt → D → Bool
  | .append, .lst _ => true
  | .pop, .lst _ => true
  | .get, .dct _ _ => true
  | .join, .str _ => true
  | _, _ => false
def appendM (x : D) : List D → M D
  | [y] => fun g => match x with
    | .ref n => match g[n]? with
      | some (.lst xs) => if xs.length < sizeLine then .ok .non (g.set n (.lst (xs ++ [y]))) else .bad
      | _ => .bad
    | _ => .bad
  | _ => M.bad
def popM (x : D) : List D → M D
  | [] => fun g => match x with
    | .ref n => match g[n]? with
      | some (.lst xs) => match xs[xs.length - 1]? with
        | some y => .ok y (g.set n (.lst xs.dropLast))
        | none => .bad
      | _ => .bad
    | _ => .bad
  | _ => M.bad
def getM (x : D) : List D → M D
  | [k] => fun g => match rd g x with
    | .dct ks vs => match keyOf k with
      | some k => .ok ((dlook ks vs k).getD .non) g
      | none => .bad
    | _ => .bad
  | [k, y] => fun g => match rd g x with
    | .dct ks vs => match keyOf k with
      | some k => .ok ((dlook ks vs k).getD y) g
      | none => .bad
    | _ => .bad
  | _ => M.bad
def joinM (x : D) : List D → M D
  | [y] => fun g => match x with
    | .str a => match rd g y with
      | .lst xs => match strsOf xs with
        | some ys => if (ys.map (·.length)).sum + ys.length * a.length ≤ 16777216 then .ok (.str (Txt.join a ys)) g else .bad
        | none => .bad
      | _ => .bad
    | _ => .bad
  | _ => M.bad
def mtM : Mt → D → List D → M D
  | .append => appendM
  | .pop => popM
  | .get => getM
  | .join => joinM
/-- a dict's pairs, from the left -/
def dmerge : List D → List D → List (D × D) → Option (List D × List D)
  | ks, vs, [] => some (ks, vs)
  | ks, vs, (k, v) :: r => match keyOf k with
    | some k => dmerge (dput ks vs k v).1 (dput ks vs k v).2 r
    | none => none
def setDctM (n : Nat) (fz : Bool) (ps : List (D × D)) : M D := fun g => match g[n]? with
  | some (.dct [] []) => match dmerge [] [] ps with
    | some r => match fz with
      | true => .ok (.dct r.1 r.2) (g.set n .gone)
      | false => .ok (.ref n) (g.set n (.dct r.1 r.2))
    | none => .bad
  | _ => .bad

mutual
def evE (cf : Cf) : E → Env' → M D
  | .v i, ρ => optM (slot ρ i)
  | .non, _ => pure .non
  | .bl b, _ => pure (.bl b)
  | .int i, _ => pure (.int i)
  | .str x, _ => pure (.str x)
  | .gl x, _ => optM (cf.glob x)
  | .tup es, ρ => do
    let ds ← evEs cf es ρ
    needM (ds.length ≤ sizeLine)
    pure (.tup ds)
  | .lst fz es, ρ => do
    let ds ← evEs cf es ρ
    needM (ds.length ≤ sizeLine)
    mkL fz ds
  | .dct fz ps, ρ => do
    let n ← newDct
    let ps ← evPs cf ps ρ
    needM (ps.length ≤ 15)
    setDctM n fz ps
  | .bin op a b, ρ => do
    let x ← evE cf a ρ
    let y ← evE cf b ρ
    let x ← rdM x
    let y ← rdM y
    optM (op2 op x y)
  | .neg a, ρ => do
    let x ← evE cf a ρ
    match x with
    | .int i => pure (.int (-i))
    | _ => M.bad
  | .not a, ρ => do
    let x ← evE cf a ρ
    let x ← rdM x
    let b ← optM (truD x)
    pure (.bl (!b))
  | .and es, ρ => evAnd cf es ρ
  | .or es, ρ => evOr cf es ρ
  | .cmp op a b, ρ => do
    let x ← evE cf a ρ
    let y ← evE cf b ρ
    let x ← rdM x
    let y ← rdM y
    let b ← optM (cmpD op x y)
    pure (.bl b)
  | .cmp2 op op' a b c, ρ => do
    let x ← evE cf a ρ
    let y ← evE cf b ρ
    let x' ← rdM x
    let y' ← rdM y
    let k ← optM (cmpD op x' y')
    if k then do
      let z ← evE cf c ρ
      let y' ← rdM y
      let z' ← rdM z
      let k ← optM (cmpD op' y' z')
      pure (.bl k)
    else pure (.bl false)
  | .isn a, ρ => do
    let x ← evE cf a ρ
    match x with
    | .non => pure (.bl true)
    | _ => pure (.bl false)
  | .notn a, ρ => do
    let x ← evE cf a ρ
    match x with
    | .non => pure (.bl false)
    | _ => pure (.bl true)
  | .ite c a b, ρ => do
    let x ← evE cf c ρ
    let x ← rdM x
    let k ← optM (truD x)
    if k then evE cf a ρ else evE cf b ρ
  | .ix a b, ρ => do
    let x ← evE cf a ρ
    let y ← evE cf b ρ
    let x ← rdM x
    let y ← rdM y
    optM (ixD cf.kd x y)
  | .sl a lo hi, ρ => do
    let x ← evE cf a ρ
    let l ← evPart cf lo ρ
    let h ← evPart cf hi ρ
    let x ← rdM x
    optM (slD x l h)
  | .fld a f, ρ => do
    let x ← evE cf a ρ
    fldM cf.fld x f
  | .call f es, ρ => do
    let ds ← evEs cf es ρ
    cf.call f ds
  | .callv i es, ρ => do
    let f ← optM (slot ρ i)
    match f with
    | .fn x => do
      needM (cf.ar x = some es.len)
      let ds ← evEs cf es ρ
      cf.call x ds
    | _ => M.bad
  | .mk fz C es, ρ => M.bad
  | .own m o es, ρ => M.bad
  | .kget o es, ρ => do
    let x ← evE cf o ρ
    match x with
    | .fn m => (match cf.kt m with
      | some l => do
        let ds ← evEs cf es ρ
        ktM l ds
      | none => M.bad)
    | _ => M.bad
  | .bad, _ => M.bad
  | .bi b es, ρ => do
    let ds ← evEs cf es ρ
    biM b ds
  | .mt m o es, ρ => do
    let x ← evE cf o ρ
    let x' ← rdM x
    needM (mtOk m x' = true)
    let ds ← evEs cf es ρ
    mtM m x ds
  | .isi a ts _, ρ => do
    let x ← evE cf a ρ
    let x ← rdM x
    let b ← optM (isiAny x ts)
    pure (.bl b)
  | .lc fz own elt t it ifs, ρ => do
    let i ← evI cf it ρ
    let n ← newL
    (fun g => loopC i n (fun d => do
      let ρ1 ← asgT cf t d (wipeE ρ own)
      let k ← evIfs cf ifs ρ1
      if k then do
        let y ← evE cf elt ρ1
        pure (some y)
      else pure none) (i.len g) 0 g)
    endL fz n
def evEs (cf : Cf) : Es → Env' → M (List D)
  | .nil, _ => pure []
  | .cons e es, ρ => do
    let x ← evE cf e ρ
    let xs ← evEs cf es ρ
    pure (x :: xs)
def evPs (cf : Cf) : Ps → Env' → M (List (D × D))
  | .nil, _ => pure []
  | .cons k v r, ρ => do
    let x ← evE cf k ρ
    let y ← evE cf v ρ
    let ps ← evPs cf r ρ
    pure ((x, y) :: ps)
def evPart (cf : Cf) : Es → Env' → M (Option Int)
  | .nil, _ => pure none
  | .cons e .nil, ρ => do
    let x ← evE cf e ρ
    match x with
    | .int i => pure (some i)
    | _ => M.bad
  | _, _ => M.bad
def evAnd (cf : Cf) : Es → Env' → M D
  | .nil, _ => M.bad
  | .cons e .nil, ρ => evE cf e ρ
  | .cons e es, ρ => do
    let x ← evE cf e ρ
    let y ← rdM x
    let b ← optM (truD y)
    if b then evAnd cf es ρ else pure x
def evOr (cf : Cf) : Es → Env' → M D
  | .nil, _ => M.bad
  | .cons e .nil, ρ => evE cf e ρ
  | .cons e es, ρ => do
    let x ← evE cf e ρ
    let y ← rdM x
    let b ← optM (truD y)
    if b then pure x else evOr cf es ρ
def evIfs (cf : Cf) : Es → Env' → M Bool
  | .nil, _ => pure true
  | .cons e es, ρ => do
    let x ← evE cf e ρ
    let x ← rdM x
    let b ← optM (truD x)
    if b then evIfs cf es ρ else pure false
def asgT (cf : Cf) : Tg → D → Env' → M Env'
  | .v i, d, ρ => pure (ρ.set i (some d))
  | .tup ts, d, ρ => do
    let x ← rdM d
    let ds ← optM (itemsD x)
    needM (ds.length = ts.len)
    asgTs cf ts ds ρ
  | .ix a b, d, ρ => do
    let x ← evE cf a ρ
    let y ← evE cf b ρ
    setItemM x y d
    pure ρ
  | .fld a f, d, ρ => do
    let x ← evE cf a ρ
    setFldM cf.fld x f d
    pure ρ
def asgTs (cf : Cf) : Tgs → List D → Env' → M Env'
  | .nil, [], ρ => pure ρ
  | .cons t ts, d :: ds, ρ => do
    let ρ1 ← asgT cf t d ρ
    asgTs cf ts ds ρ1
  | _, _, _ => M.bad
def evI (cf : Cf) : I → Env' → M It0
  | .e a, ρ => do
    let x ← evE cf a ρ
    itM x
  | .rng1 a, ρ => do
    let x ← evE cf a ρ
    match x with
    | .int j => do
      needM (-(2 ^ 62) ≤ j ∧ j < 2 ^ 62)
      pure (.fix (rngD 0 j))
    | _ => M.bad
  | .rng2 a b, ρ => do
    let x ← evE cf a ρ
    let y ← evE cf b ρ
    match x, y with
    | .int i, .int j => do
      needM (-(2 ^ 62) ≤ i ∧ i < 2 ^ 62 ∧ -(2 ^ 62) ≤ j ∧ j < 2 ^ 62)
      pure (.fix (rngD i j))
    | _, _ => M.bad
  | .enum a, ρ => do
    let x ← evE cf a ρ
    match x with
    | .lst ds => pure (.fix (enumD ds))
    | _ => M.bad
  | .zip a b, ρ => do
    let x ← evE cf a ρ
    let y ← evE cf b ρ
    match x, y with
    | .lst xs, .lst ys => pure (.fix (zipD xs ys))
    | .tup xs, .tup ys => pure (.fix (zipD xs ys))
    | _, _ => M.bad
  | .items a, ρ => do
    let x ← evE cf a ρ
    match x with
    | .dct ks vs => pure (.fix (zipD ks vs))
    | _ => M.bad
  | .vals a, ρ => do
    let x ← evE cf a ρ
    match x with
    | .dct _ vs => pure (.fix vs)
    | _ => M.bad
end
/-- a test -/
def evTM (F : Env' → M D) (ρ : Env') : M Bool := do
  let x ← F ρ
  let x ← rdM x
  optM (truD x)
def evT (cf : Cf) (e : E) : Env' → M Bool := evTM (evE cf e)
/-- an expression's exception goes on -/
def liftS {α : Type} (ρ : Env') (m : M α) (k : α → M (Fl × Env')) : M (Fl × Env') := fun g => match m g with
  | .ok a g' => k a g'
  | .ex e g' => .ok (.rs e, ρ) g'
  | .bad => .bad
/-- a statement, then the rest -/
def seqS (r : R (Fl × Env')) (k : Env' → M (Fl × Env')) : R (Fl × Env') := r.bind fun x => match x with
  | (.nx, ρ) => k ρ
  | x => pure x
def whileS (c : Env' → M Bool) (body : Env' → M (Fl × Env')) : Nat → Env' → M (Fl × Env')
  | 0, _ => M.bad
  | k + 1, ρ => liftS ρ (c ρ) fun b => if b then (fun g => (body ρ g).bind fun x => match x with
      | (.nx, ρ') => whileS c body k ρ'
      | (.ct, ρ') => whileS c body k ρ'
      | (.bk, ρ') => pure (.nx, ρ')
      | x => pure x)
    else pure (.nx, ρ)
def parSet : List Nat → List D → Env' → Option Env'
  | [], [], ρ => some ρ
  | i :: is, d :: ds, ρ => parSet is ds (ρ.set i (some d))
  | _, _, _ => none
mutual
def evS (cf : Cf) : S → Env' → M (Fl × Env')
  | .ex a, ρ => liftS ρ (evE cf a ρ) fun _ => pure (.nx, ρ)
  | .ret a, ρ => liftS ρ (evE cf a ρ) fun d => pure (.rt d, ρ)
  | .retn, ρ => pure (.rt .non, ρ)
  | .asg t a, ρ => liftS ρ (evE cf a ρ) fun d => do
    let ρ' ← noEx (asgT cf t d ρ)
    pure (.nx, ρ')
  | .par is es, ρ => liftS ρ (evEs cf es ρ) fun ds => match parSet is ds ρ with
    | some ρ' => pure (.nx, ρ')
    | none => M.bad
  | .augv i op a, ρ => liftS ρ (do
      let x ← optM (slot ρ i)
      let y ← evE cf a ρ
      let x ← rdM x
      let y ← rdM y
      optM (aug2 op x y)) fun z => pure (.nx, ρ.set i (some z))
  | .augf o f op a, ρ => M.bad
  | .iff c a b, ρ => liftS ρ (evT cf c ρ) fun k => if k then evSs cf a ρ else evSs cf b ρ
  | .forr t it b, ρ => liftS ρ (evI cf it ρ) fun i => fun g => loopS i (fun d ρ => do
    let ρ1 ← noEx (asgT cf t d ρ)
    evSs cf b ρ1) (i.len g) 0 ρ g
  | .whl c b, ρ => whileS (evT cf c) (evSs cf b) cf.wf ρ
  | .brk, ρ => pure (.bk, ρ)
  | .cnt, ρ => pure (.ct, ρ)
  | .pas, ρ => pure (.nx, ρ)
  | .rse C es, ρ => M.bad
  | .bad, ρ => M.bad
  | .frz i, ρ => liftS ρ (do
      let d ← optM (slot ρ i)
      frzM d) fun d' => pure (.nx, ρ.set i (some d'))
def evSs (cf : Cf) : Ss → Env' → M (Fl × Env')
  | .nil, ρ => pure (.nx, ρ)
  | .cons s ss, ρ => fun g => seqS (evS cf s ρ g) fun ρ' => evSs cf ss ρ'
end
end DL

set_option Elab.async false
set_option linter.all false
set_option maxRecDepth 100000
set_option maxHeartbeats 4000000
/-! the deep layer: what values say; == -/
namespace DL
open PySem PySem.Spec PyProof.Rows L2

section
variable {K : PySem.W.Frag} {mu : List Addr} {g : G} {H : Hp} {v : V} {d : D}
theorem RV.int_inv {own : Addr → Prop} {i : Int} (h : RV K own mu H v (.int i)) : v = .int i := by cases h; rfl
theorem RV.bl_inv {own : Addr → Prop} {i : Bool} (h : RV K own mu H v (.bl i)) : v = .bl i := by cases h; rfl
theorem RV.str_inv {own : Addr → Prop} {i : Str} (h : RV K own mu H v (.str i)) : v = .str i := by cases h; rfl
theorem RV.non_inv {own : Addr → Prop} (h : RV K own mu H v .non) : v = .non := by cases h; rfl
theorem RV.tup_inv {own : Addr → Prop} {ds : List D} (h : RV K own mu H v (.tup ds)) : ∃ a vs, v = .ref a ∧ TupAt K own H a vs ∧ RVs K own mu H vs ds := by
  cases h with
  | tup h r => exact ⟨_, _, rfl, h, r⟩
theorem RV.non_iff {own : Addr → Prop} (h : RV K own mu H v d) : v = .non ↔ d = .non := by
  cases h <;> simp
theorem RVs.length {own : Addr → Prop} : ∀ {ds : List D} {vs : List V}, RVs K own mu H vs ds → vs.length = ds.length
  | _, _, .nil => rfl
  | _, _, .cons _ r => by simp [RVs.length r]
theorem RVs.get {own : Addr → Prop} : ∀ {ds : List D} {vs : List V} {i : Nat} {d : D}, RVs K own mu H vs ds → ds[i]? = some d → ∃ v, vs[i]? = some v ∧ RV K own mu H v d
  | _, _, 0, _, .cons h _, e => by simp at e; subst e; exact ⟨_, rfl, h⟩
  | _, _, i + 1, _, .cons _ r, e => by simpa using RVs.get (i := i) r (by simpa using e)
theorem RVs.get' {own : Addr → Prop} : ∀ {ds : List D} {vs : List V} {i : Nat} {v : V}, RVs K own mu H vs ds → vs[i]? = some v → ∃ d, ds[i]? = some d ∧ RV K own mu H v d
  | _, _, 0, _, .cons h _, e => by simp at e; subst e; exact ⟨_, rfl, h⟩
  | _, _, i + 1, _, .cons _ r, e => by simpa using RVs.get' (i := i) r (by simpa using e)
theorem RVs.append {own : Addr → Prop} : ∀ {ds ds' : List D} {vs vs' : List V}, RVs K own mu H vs ds → RVs K own mu H vs' ds' → RVs K own mu H (vs ++ vs') (ds ++ ds')
  | _, _, _, _, .nil, q => q
  | _, _, _, _, .cons h r, q => .cons h (RVs.append r q)
theorem RVs.set {own : Addr → Prop} {v : V} {d : D} (hv : RV K own mu H v d) : ∀ {ds : List D} {vs : List V} (i : Nat), RVs K own mu H vs ds → RVs K own mu H (vs.set i v) (ds.set i d)
  | _, _, _, .nil => .nil
  | _, _, 0, .cons _ r => .cons hv r
  | _, _, i + 1, .cons h r => .cons h (RVs.set hv i r)
theorem RVs.drop {own : Addr → Prop} : ∀ {ds : List D} {vs : List V} (n : Nat), RVs K own mu H vs ds → RVs K own mu H (vs.drop n) (ds.drop n)
  | _, _, 0, h => h
  | _, _, _ + 1, .nil => .nil
  | _, _, n + 1, .cons _ r => RVs.drop n r
theorem RVs.take {own : Addr → Prop} : ∀ {ds : List D} {vs : List V} (n : Nat), RVs K own mu H vs ds → RVs K own mu H (vs.take n) (ds.take n)
  | _, _, 0, _ => .nil
  | _, _, _ + 1, .nil => .nil
  | _, _, n + 1, .cons h r => .cons h (RVs.take n r)
theorem RVs.isEmpty {own : Addr → Prop} {ds : List D} {vs : List V} (h : RVs K own mu H vs ds) : vs.isEmpty = ds.isEmpty := by
  cases h <;> rfl
theorem RVs.nil_iff {own : Addr → Prop} {ds : List D} {vs : List V} (h : RVs K own mu H vs ds) : vs = [] ↔ ds = [] := by
  cases h <;> simp
theorem RVs.ints {own : Addr → Prop} : ∀ {ds : List D} {vs : List V} {ns : List Int}, RVs K own mu H vs ds → intsOf ds = some ns → vs = ns.map V.int
  | _, _, _, .nil, e => by simp [intsOf] at e; subst e; rfl
  | d :: ds, _, ns, .cons h r, e => by
    cases d <;> simp [intsOf] at e
    obtain ⟨ms, e1, rfl⟩ := e
    rw [h.int_inv, RVs.ints r e1]; rfl
theorem RVs.bools {own : Addr → Prop} : ∀ {ds : List D} {vs : List V} {ns : List Bool}, RVs K own mu H vs ds → boolsOf ds = some ns → vs = ns.map V.bl
  | _, _, _, .nil, e => by simp [boolsOf] at e; subst e; rfl
  | d :: ds, _, ns, .cons h r, e => by
    cases d <;> simp [boolsOf] at e
    obtain ⟨ms, e1, rfl⟩ := e
    rw [h.bl_inv, RVs.bools r e1]; rfl

/-- what stands behind rd -/
theorem rd_lst (S : Sim K mu g H) (h : RV K (Own mu g) mu H v d) {ds : List D} (e : rd g d = .lst ds) : ∃ a vs, v = .ref a ∧ SqL K H a vs ∧ RVs K (Own mu g) mu H vs ds := by
  cases h with
  | lst h r => simp only [rd] at e; cases e; exact ⟨_, _, rfl, h.seq, r⟩
  | @ref n a hm =>
    simp only [rd] at e
    cases hg : g[n]? with
    | none => rw [hg] at e; cases e
    | some o =>
      rw [hg] at e
      cases o with
      | lst xs =>
        cases e
        obtain ⟨vs, q, r⟩ := S.at_ n _ a hg hm
        exact ⟨a, vs, rfl, SqL.of q, r⟩
      | _ => cases e
  | _ => simp only [rd] at e <;> cases e
theorem rd_tup (h : RV K (Own mu g) mu H v d) {ds : List D} (e : rd g d = .tup ds) : ∃ a vs, v = .ref a ∧ SqT K H a vs ∧ RVs K (Own mu g) mu H vs ds := by
  cases h with
  | tup h r => simp only [rd] at e; cases e; exact ⟨_, _, rfl, h.seq, r⟩
  | @ref n a hm =>
    simp only [rd] at e
    cases hg : g[n]? with
    | none => rw [hg] at e; cases e
    | some o => rw [hg] at e; cases o <;> cases e
  | _ => simp only [rd] at e <;> cases e
theorem rd_dct (S : Sim K mu g H) (h : RV K (Own mu g) mu H v d) {ks ds : List D} (e : rd g d = .dct ks ds) : ∃ a kvs, v = .ref a ∧ Rd H a (.dK kvs) ∧ RVs K (Own mu g) mu H (kvs.map fun p => kV p.1) ks ∧ RVs K (Own mu g) mu H (kvs.map (·.2)) ds := by
  cases h with
  | dct h1 h2 r r' => simp only [rd] at e; cases e; exact ⟨_, _, rfl, .inr ⟨_, h2⟩, r, r'⟩
  | @ref n a hm =>
    simp only [rd] at e
    cases hg : g[n]? with
    | none => rw [hg] at e; cases e
    | some o =>
      rw [hg] at e
      cases o with
      | dct xs ys =>
        cases e
        obtain ⟨vs, q, r, r'⟩ := S.at_ n _ a hg hm
        exact ⟨a, vs, rfl, .inl q, r, r'⟩
      | _ => cases e
  | _ => simp only [rd] at e <;> cases e
theorem rd_obj (S : Sim K mu g H) (h : RV K (Own mu g) mu H v d) {C : Str} {ns : List Str} {ds : List D} (e : rd g d = .obj C ns ds) : ∃ a dx fs, v = .ref a ∧ H a = some (.ins (He.ga K C) dx fs) ∧ fs.map (·.1) = ns ∧ RVs K (Own mu g) mu H (fs.map (·.2)) ds := by
  cases h with
  | obj h1 h2 r => simp only [rd] at e; cases e; exact ⟨_, _, _, rfl, h2, rfl, r⟩
  | @ref n a hm =>
    simp only [rd] at e
    cases hg : g[n]? with
    | none => rw [hg] at e; cases e
    | some o =>
      rw [hg] at e
      cases o with
      | ins C' ns' ds' =>
        cases e
        obtain ⟨dx, fs, q, rn, r⟩ := S.at_ n _ a hg hm
        exact ⟨a, dx, fs, rfl, q, rn, r⟩
      | _ => cases e
  | _ => simp only [rd] at e <;> cases e
/-- values that are no objects are what they are -/
theorem rd_flat {x : D} (h : rd g d = x) (hx : kindD x < 3) : d = x := by
  cases d with
  | ref n =>
    exfalso
    simp only [rd] at h
    cases hg : g[n]? with
    | none => rw [hg] at h; subst h; simp [kindD] at hx
    | some o => rw [hg] at h; cases o <;> (subst h; simp [kindD] at hx)
  | _ => exact h
theorem rd_int (h : RV K (Own mu g) mu H v d) {i : Int} (e : rd g d = .int i) : v = .int i := by
  have := rd_flat e (by simp [kindD])
  subst this
  exact h.int_inv
theorem rd_bl (h : RV K (Own mu g) mu H v d) {i : Bool} (e : rd g d = .bl i) : v = .bl i := by
  have := rd_flat e (by simp [kindD])
  subst this
  exact h.bl_inv
theorem rd_str (h : RV K (Own mu g) mu H v d) {i : Str} (e : rd g d = .str i) : v = .str i := by
  have := rd_flat e (by simp [kindD])
  subst this
  exact h.str_inv
theorem rd_non (h : RV K (Own mu g) mu H v d) (e : rd g d = .non) : v = .non := by
  have := rd_flat e (by simp [kindD])
  subst this
  exact h.non_inv
/-- what may be read -/
inductive RB (K : PySem.W.Frag) (own : Addr → Prop) (mu : List Addr) (H : Hp) : V → D → Prop
  | non : RB K own mu H .non .non
  | bl (b : Bool) : RB K own mu H (.bl b) (.bl b)
  | int (i : Int) : RB K own mu H (.int i) (.int i)
  | str (x : Str) : RB K own mu H (.str x) (.str x)
  | tup {a : Addr} {vs : List V} {ds : List D} : SqT K H a vs → RVs K own mu H vs ds → RB K own mu H (.ref a) (.tup ds)
  | lst {a : Addr} {vs : List V} {ds : List D} : SqL K H a vs → RVs K own mu H vs ds → RB K own mu H (.ref a) (.lst ds)
theorem rd_rb (S : Sim K mu g H) (h : RV K (Own mu g) mu H v d) (hk : kindD (rd g d) < 5) : RB K (Own mu g) mu H v (rd g d) := by
  cases e : rd g d with
  | non => rw [rd_non h e]; exact .non
  | bl b => rw [rd_bl h e]; exact .bl b
  | int i => rw [rd_int h e]; exact .int i
  | str x => rw [rd_str h e]; exact .str x
  | tup ds => obtain ⟨a, vs, rfl, q, r⟩ := rd_tup h e; exact .tup q r
  | lst ds => obtain ⟨a, vs, rfl, q, r⟩ := rd_lst S h e; exact .lst q r
  | _ => rw [e] at hk; simp [kindD] at hk
theorem RV.rb {own : Addr → Prop} (h : RV K own mu H v d) (hk : kindD d < 5) : RB K own mu H v d := by
  cases h with
  | non => exact .non
  | bl b => exact .bl b
  | int i => exact .int i
  | str x => exact .str x
  | tup q r => exact .tup q.seq r
  | lst q r => exact .lst q.seq r
  | _ => simp [kindD] at hk
end

/-! ### == -/
theorem eqO_kind {x y : D} {b : Bool} (h : eqO x y = some b) : kindD x < 5 ∧ kindD y < 5 := by
  unfold eqO at h
  split at h <;> first
    | (simp [kindD]; done)
    | (rename_i q1 q2 q3 q4 q5 q6 q7 q8
       split at h
       · assumption
       · cases h)
theorem eqOs_cons {x y : D} {xs ys : List D} {b : Bool} (h : eqOs (x :: xs) (y :: ys) = some b) : ∃ b1 b2, eqO x y = some b1 ∧ eqOs xs ys = some b2 ∧ b = (b1 && b2) := by
  simp only [eqOs] at h
  cases e1 : eqO x y with
  | none => rw [e1] at h; cases h
  | some b1 =>
    cases e2 : eqOs xs ys with
    | none => rw [e1, e2] at h; cases h
    | some b2 => rw [e1, e2] at h; cases h; exact ⟨b1, b2, rfl, rfl, rfl⟩
section
variable {X : Cx} {pins : List (Addr × Obj)} {σ : L2.St} {H : Hp} {s : Shared} {own : Addr → Prop} {mu : List Addr}
theorem tupI {h : Heap} {a : Addr} {its : Array Value} (p : IsTup h a its) : h.IsTuple a its := p
theorem sq_apart (I : Inv X pins σ H s) {a : Addr} {vs ws : List V} (h1 : SqT X.K H a vs) (h2 : SqL X.K H a ws) : False := by
  obtain ⟨i1, r1, ⟨o1, e1, c1, _⟩, _⟩ := I.tuple h1
  obtain ⟨i2, r2, ⟨o2, n2, e2, c2, _⟩, _⟩ := I.list h2
  rw [e1] at e2; cases e2
  rw [c1] at c2; exact absurd c2 (by decide)
mutual
theorem eq_same (I : Inv X pins σ H s) : ∀ (x y : D) (v : V) (b : Bool), RB X.K own mu H v x → RB X.K own mu H v y → eqO x y = some b → b = true
  | .non, _, _, b, h1, h2, e => by cases h1; cases h2; simp only [eqO] at e; cases e; rfl
  | .bl c, _, _, b, h1, h2, e => by cases h1; cases h2; simp only [eqO] at e; cases e; simp
  | .int c, _, _, b, h1, h2, e => by cases h1; cases h2; simp only [eqO] at e; cases e; simp
  | .str c, _, _, b, h1, h2, e => by cases h1; cases h2; simp only [eqO] at e; cases e; simp
  | .tup xs, y, _, b, h1, h2, e => by
    cases h1 with
    | tup q r =>
      cases h2 with
      | tup q' r' =>
        have ev := I.tuple_inj q q'
        subst ev
        simp only [eqO] at e
        exact eq_sames I xs _ _ b r r' e
      | lst q' r' => exact (sq_apart I q q').elim
  | .lst xs, y, _, b, h1, h2, e => by
    cases h1 with
    | lst q r =>
      cases h2 with
      | lst q' r' =>
        have ev := I.list_inj q q'
        subst ev
        simp only [eqO] at e
        split at e
        · exact eq_sames I xs _ _ b r r' e
        · rename_i hn; exact absurd (r.length.symm.trans r'.length) hn
      | tup q' r' => exact (sq_apart I q' q).elim
  | .dct _ _, _, _, _, h1, _, _ => by cases h1
  | .obj _ _ _, _, _, _, h1, _, _ => by cases h1
  | .ref _, _, _, _, h1, _, _ => by cases h1
  | .fn _, _, _, _, h1, _, _ => by cases h1
theorem eq_sames (I : Inv X pins σ H s) : ∀ (xs ys : List D) (vs : List V) (b : Bool), RVs X.K own mu H vs xs → RVs X.K own mu H vs ys → eqOs xs ys = some b → b = true
  | [], _, _, b, h1, h2, e => by cases h1; cases h2; simp only [eqOs] at e; cases e; rfl
  | x :: xs, _, _, b, h1, h2, e => by
    cases h1 with
    | cons q r =>
      cases h2 with
      | cons q' r' =>
        obtain ⟨b1, b2, e1, e2, rfl⟩ := eqOs_cons e
        have k := eqO_kind e1
        rw [eq_same I x _ _ b1 (q.rb k.1) (q'.rb k.2) e1, eq_sames I xs _ _ b2 r r' e2]; rfl
end
open SeqAt in
mutual
theorem eq_ok (I : Inv X pins σ H s) : ∀ (x y : D) (A : Around) (vx vy : V) (u w : Value) (b : Bool), RB X.K own mu H vx x → RB X.K own mu H vy y → RelV vx u → RelV vy w → eqO x y = some b → A.units + min (dep x) (dep y) < cLine → EqAt A s u w b
  | .non, y, A, _, _, u, w, b, h1, h2, ru, rw_, e, hu => by
    cases h1
    cases ru
    cases h2 with
    | non => simp only [eqO] at e; cases e; cases rw_; exact EqAt.same _
    | bl c => simp [eqO, kindD] at e; subst e; cases rw_; exact EqAt.none_bool _
    | int i => simp [eqO, kindD] at e; subst e; obtain ⟨t, rfl⟩ := rw_; exact EqAt.none_int i t
    | str i => simp [eqO, kindD] at e; subst e; obtain ⟨t, rfl⟩ := rw_; exact EqAt.none_str i t
    | tup q r => simp [eqO, kindD] at e; subst e; cases rw_; obtain ⟨i2, r2, p2, _⟩ := I.tuple q; exact EqAt.none_tuple (tupI p2) (room_here hu)
    | lst q r => simp [eqO, kindD] at e; subst e; cases rw_; obtain ⟨i2, r2, p2, _⟩ := I.list q; exact EqAt.none_list p2.isList (room_here hu)
  | .bl a, y, A, _, _, u, w, b, h1, h2, ru, rw_, e, hu => by
    cases h1
    cases ru
    cases h2 with
    | non => simp [eqO, kindD] at e; subst e; cases rw_; exact EqAt.bool_none _
    | bl c => simp only [eqO] at e; cases e; cases rw_; exact EqAt.bool_bool _ _
    | int i => simp only [eqO] at e; cases e; obtain ⟨t, rfl⟩ := rw_; exact EqAt.bool_int a i t
    | str i => simp [eqO, kindD] at e; subst e; obtain ⟨t, rfl⟩ := rw_; exact EqAt.bool_str a i t
    | tup q r => simp [eqO, kindD] at e; subst e; cases rw_; obtain ⟨i2, r2, p2, _⟩ := I.tuple q; exact EqAt.bool_tuple _ (tupI p2) (room_here hu)
    | lst q r => simp [eqO, kindD] at e; subst e; cases rw_; obtain ⟨i2, r2, p2, _⟩ := I.list q; exact EqAt.bool_list _ p2.isList (room_here hu)
  | .int a, y, A, _, _, u, w, b, h1, h2, ru, rw_, e, hu => by
    cases h1
    obtain ⟨t0, rfl⟩ := ru
    cases h2 with
    | non => simp [eqO, kindD] at e; subst e; cases rw_; exact EqAt.int_none _ _
    | bl c => simp only [eqO] at e; cases e; cases rw_; exact EqAt.int_bool _ _ _
    | int i => simp only [eqO] at e; cases e; obtain ⟨t, rfl⟩ := rw_; exact EqAt.int_int a t0 i t
    | str i => simp [eqO, kindD] at e; subst e; obtain ⟨t, rfl⟩ := rw_; exact EqAt.int_str a t0 i t
    | tup q r => simp [eqO, kindD] at e; subst e; cases rw_; obtain ⟨i2, r2, p2, _⟩ := I.tuple q; exact EqAt.int_tuple _ _ (tupI p2) (room_here hu)
    | lst q r => simp [eqO, kindD] at e; subst e; cases rw_; obtain ⟨i2, r2, p2, _⟩ := I.list q; exact EqAt.int_list _ _ p2.isList (room_here hu)
  | .str a, y, A, _, _, u, w, b, h1, h2, ru, rw_, e, hu => by
    cases h1
    obtain ⟨t0, rfl⟩ := ru
    cases h2 with
    | non => simp [eqO, kindD] at e; subst e; cases rw_; exact EqAt.str_none _ _
    | bl c => simp [eqO, kindD] at e; subst e; cases rw_; exact EqAt.str_bool _ _ _
    | int i => simp [eqO, kindD] at e; subst e; obtain ⟨t, rfl⟩ := rw_; exact EqAt.str_int a t0 i t
    | str i => simp only [eqO] at e; cases e; obtain ⟨t, rfl⟩ := rw_; exact EqAt.str_str a t0 i t
    | tup q r => simp [eqO, kindD] at e; subst e; cases rw_; obtain ⟨i2, r2, p2, _⟩ := I.tuple q; exact EqAt.str_tuple _ _ (tupI p2) (room_here hu)
    | lst q r => simp [eqO, kindD] at e; subst e; cases rw_; obtain ⟨i2, r2, p2, _⟩ := I.list q; exact EqAt.str_list _ _ p2.isList (room_here hu)
  | .tup xs, y, A, vx, vy, u, w, b, h1, h2, ru, rw_, e, hu => by
    cases h1 with
    | @tup a1 vs1 _ q1 r1 =>
      cases ru
      obtain ⟨i1, rr1, p1, _⟩ := I.tuple q1
      cases h2 with
      | non => simp [eqO, kindD] at e; subst e; cases rw_; exact EqAt.tuple_none (tupI p1) (room_here hu)
      | bl c => simp [eqO, kindD] at e; subst e; cases rw_; exact EqAt.tuple_bool _ (tupI p1) (room_here hu)
      | int i => simp [eqO, kindD] at e; subst e; obtain ⟨t, rfl⟩ := rw_; exact EqAt.tuple_int _ _ (tupI p1) (room_here hu)
      | str i => simp [eqO, kindD] at e; subst e; obtain ⟨t, rfl⟩ := rw_; exact EqAt.tuple_str _ _ (tupI p1) (room_here hu)
      | lst q r => simp [eqO, kindD] at e; subst e; cases rw_; obtain ⟨i2, r2, p2, _⟩ := I.list q; exact EqAt.tuple_list (tupI p1) p2.isList (room_here hu)
      | @tup a2 vs2 ys q2 r2 =>
        cases rw_
        obtain ⟨i2, rr2, p2, _⟩ := I.tuple q2
        by_cases ha : a1 = a2
        · subst ha
          have := eq_same I (.tup xs) (.tup ys) _ b (.tup q1 r1) (.tup q2 r2) e
          subst this
          exact EqAt.same _
        · simp only [eqO] at e
          simp only [dep] at hu
          obtain ⟨f, hf, hb⟩ := eq_oks I xs ys A.in1 vs1 vs2 i1 i2 b r1 r2 rr1 rr2 e (room_in hu)
          refine EqAt.of_refs ha ?_
          rw [← hb]
          have h3 := RcAt.tuples (e := f) (tupI p1) (tupI p2) (room_here hu) (fun j h1 h2 => by
            rw [List.size_toArray] at h1 h2
            have := hf j h1 h2
            simpa using this)
          simpa using h3
  | .lst xs, y, A, vx, vy, u, w, b, h1, h2, ru, rw_, e, hu => by
    cases h1 with
    | @lst a1 vs1 _ q1 r1 =>
      cases ru
      obtain ⟨i1, rr1, p1, _⟩ := I.list q1
      cases h2 with
      | non => simp [eqO, kindD] at e; subst e; cases rw_; exact EqAt.list_none p1.isList (room_here hu)
      | bl c => simp [eqO, kindD] at e; subst e; cases rw_; exact EqAt.list_bool _ p1.isList (room_here hu)
      | int i => simp [eqO, kindD] at e; subst e; obtain ⟨t, rfl⟩ := rw_; exact EqAt.list_int _ _ p1.isList (room_here hu)
      | str i => simp [eqO, kindD] at e; subst e; obtain ⟨t, rfl⟩ := rw_; exact EqAt.list_str _ _ p1.isList (room_here hu)
      | tup q r => simp [eqO, kindD] at e; subst e; cases rw_; obtain ⟨i2, r2, p2, _⟩ := I.tuple q; exact EqAt.list_tuple p1.isList (tupI p2) (room_here hu)
      | @lst a2 vs2 ys q2 r2 =>
        cases rw_
        obtain ⟨i2, rr2, p2, _⟩ := I.list q2
        have l1 : i1.length = xs.length := rr1.length.symm.trans r1.length
        have l2 : i2.length = ys.length := rr2.length.symm.trans r2.length
        by_cases ha : a1 = a2
        · subst ha
          have := eq_same I (.lst xs) (.lst ys) _ b (.lst q1 r1) (.lst q2 r2) e
          subst this
          exact EqAt.same _
        · simp only [eqO] at e
          simp only [dep] at hu
          split at e
          · rename_i hl
            obtain ⟨f, hf, hb⟩ := eq_oks I xs ys A.in1 vs1 vs2 i1 i2 b r1 r2 rr1 rr2 e (room_in hu)
            refine EqAt.of_refs ha ?_
            have h3 := RcAt.lists (e := f) p1.isList p2.isList (by simp [l1, l2, hl]) (room_here hu) (fun j h1 h2 => by
              rw [List.size_toArray] at h1 h2
              have := hf j h1 h2
              simpa using this)
            rw [l1, l2, hl] at hb
            simp at hb
            rw [show b = (List.range i1.toArray.size).all f by rw [← hb]; simp [l1, hl]]
            exact h3
          · rename_i hl
            cases e
            exact EqAt.of_refs ha (RcAt.lists_lengths p1.isList p2.isList (by simp [l1, l2, hl]) (room_here hu))
  | .dct _ _, _, _, _, _, _, _, _, h1, _, _, _, _, _ => by cases h1
  | .obj _ _ _, _, _, _, _, _, _, _, h1, _, _, _, _, _ => by cases h1
  | .ref _, _, _, _, _, _, _, _, h1, _, _, _, _, _ => by cases h1
  | .fn _, _, _, _, _, _, _, _, h1, _, _, _, _, _ => by cases h1
theorem eq_oks (I : Inv X pins σ H s) : ∀ (xs ys : List D) (A : Around) (vs ws : List V) (us zs : List Value) (b : Bool), RVs X.K own mu H vs xs → RVs X.K own mu H ws ys → Vals vs us → Vals ws zs → eqOs xs ys = some b →
    A.units + min (deps xs) (deps ys) < cLine → ∃ f : Nat → Bool, (∀ j (h1 : j < us.length) (h2 : j < zs.length), EqAt A s us[j] zs[j] (f j)) ∧ ((List.range (min us.length zs.length)).all f && us.length == zs.length) = b
  | [], [], A, _, _, us, zs, b, h1, h2, r1, r2, e, hu => by
    cases h1; cases h2; cases r1; cases r2
    simp only [eqOs] at e; cases e
    exact ⟨fun _ => true, fun j h => absurd h (Nat.not_lt_zero _), rfl⟩
  | [], y :: ys, A, _, _, us, zs, b, h1, h2, r1, r2, e, hu => by
    cases h1; cases r1
    simp only [eqOs] at e; cases e
    have l2 := r2.length.symm.trans h2.length
    refine ⟨fun _ => true, fun j h => absurd h (Nat.not_lt_zero _), ?_⟩
    simp [l2]
  | x :: xs, [], A, _, _, us, zs, b, h1, h2, r1, r2, e, hu => by
    cases h2; cases r2
    simp only [eqOs] at e; cases e
    have l1 := r1.length.symm.trans h1.length
    refine ⟨fun _ => true, fun j _ h => absurd h (Nat.not_lt_zero _), ?_⟩
    simp [l1]
  | x :: xs, y :: ys, A, _, _, _, _, b, h1, h2, r1, r2, e, hu => by
    cases h1 with
    | cons q1 t1 =>
      cases h2 with
      | cons q2 t2 =>
        cases r1 with
        | cons ru rus =>
          cases r2 with
          | cons rz rzs =>
            obtain ⟨b1, b2, e1, e2, rfl⟩ := eqOs_cons e
            have k := eqO_kind e1
            simp only [deps] at hu
            obtain ⟨f, hf, hb⟩ := eq_oks I xs ys A _ _ _ _ b2 t1 t2 rus rzs e2 (room_tail hu)
            have h0 := eq_ok I x y A _ _ _ _ b1 (q1.rb k.1) (q2.rb k.2) ru rz e1 (room_head hu)
            refine ⟨fun j => match j with | 0 => b1 | j + 1 => f j, fun j h1 h2 => ?_, ?_⟩
            · cases j with
              | zero => exact h0
              | succ j => exact hf j (Nat.lt_of_succ_lt_succ h1) (Nat.lt_of_succ_lt_succ h2)
            · rw [← hb]
              simp only [List.length_cons]
              rw [Nat.succ_min_succ, List.range_succ_eq_map]
              simp [List.all_map, Function.comp_def, Bool.and_assoc]
end
end
end DL

set_option Elab.async false
set_option linter.all false
set_option maxRecDepth 100000
set_option maxHeartbeats 4000000
/-! the deep layer: operations -/
namespace DL
open PySem PySem.Spec PyProof.Rows L2

/-- what follows a value -/
abbrev Kt (K : PySem.W.Frag) (mu : List Addr) (g : G) (H : Hp) (g' : G) (z : D) (Q : VK) : Prop := ∀ mu' H', Ext mu g H mu' g' H' → Sim K mu' g' H' → ∀ v, RV K (Own mu' g') mu' H' v z → Q v H'
section
variable {K : PySem.W.Frag} {mu : List Addr} {g g' : G} {H : Hp} {Q : VK}
theorem Kt.flat (S : Sim K mu g H) {z : D} {v : V} (k : Kt K mu g H g z Q) (r : RV K (Own mu g) mu H v z) : Q v H := k mu H .refl S v r
theorem Kt.newTup (S : Sim K mu g H) {ds : List D} {vs : List V} (r : RVs K (Own mu g) mu H vs ds) (k : Kt K mu g H g (.tup ds) Q) : ∀ p, H p = none → Q (.ref p) (upd H p (.tup vs)) := fun p hp =>
  k mu _ (.new hp) (S.new hp) _ (.tup (.inl ⟨(S.nown_fresh hp), .inl upd_same⟩) (r.ext (.new hp)))
theorem Kt.newLst (S : Sim K mu g H) {ds : List D} {vs : List V} (r : RVs K (Own mu g) mu H vs ds) (k : Kt K mu g H g (.lst ds) Q) : ∀ p, H p = none → Q (.ref p) (upd H p (.lst vs)) := fun p hp =>
  k mu _ (.new hp) (S.new hp) _ (.lst (.inl ⟨(S.nown_fresh hp), .inl upd_same⟩) (r.ext (.new hp)))
theorem Kt.allocLst (S : Sim K mu g H) {ds : List D} {vs : List V} (r : RVs K (Own mu g) mu H vs ds) (k : Kt K mu g H (g ++ [.lst ds]) (.ref g.length) Q) : ∀ p, H p = none → Q (.ref p) (upd H p (.lst vs)) := fun p hp =>
  k (mu ++ [p]) _ (.alloc S.len hp) (S.alloc hp ⟨vs, upd_same, r.ext (.alloc S.len hp)⟩) _ (.ref (by rw [← S.len]; simp))
theorem Kt.mkLst (S : Sim K mu g H) {fz : Bool} {ds : List D} {vs : List V} (r : RVs K (Own mu g) mu H vs ds) (k : Wp K X mu g H (mkL fz ds g) fun mu' g' H' d => ∀ v, RV K (Own mu' g') mu' H' v d → Q v H') : ∀ p, H p = none → Q (.ref p) (upd H p (.lst vs)) := by
  cases fz with
  | true => exact Kt.newLst S r k
  | false => exact Kt.allocLst S r k
end

section
variable {X : Cx} {pins : List (Addr × Obj)} {σ : L2.St} {H : Hp} {s : Shared} {own : Addr → Prop} {mu : List Addr}
mutual
theorem eq_congr (I : Inv X pins σ H s) : ∀ (x y z : D) (v : V) (b b' : Bool), RB X.K own mu H v x → RB X.K own mu H v y → eqO x z = some b → eqO y z = some b' → b = b'
  | .non, _, z, _, b, b', h1, h2, e, e' => by cases h1; cases h2; rw [e] at e'; cases e'; rfl
  | .bl c, _, z, _, b, b', h1, h2, e, e' => by cases h1; cases h2; rw [e] at e'; cases e'; rfl
  | .int c, _, z, _, b, b', h1, h2, e, e' => by cases h1; cases h2; rw [e] at e'; cases e'; rfl
  | .str c, _, z, _, b, b', h1, h2, e, e' => by cases h1; cases h2; rw [e] at e'; cases e'; rfl
  | .tup xs, y, z, _, b, b', h1, h2, e, e' => by
    cases h1 with
    | tup q r =>
      cases h2 with
      | tup q' r' =>
        have ev := I.tuple_inj q q'
        subst ev
        cases z with
        | tup zs => simp only [eqO] at e e'; exact eq_congrs I xs _ zs _ b b' r r' e e'
        | _ => simp [eqO, kindD] at e e' <;> (try subst e; subst e'; rfl)
      | lst q' r' => exact (sq_apart I q q').elim
  | .lst xs, y, z, _, b, b', h1, h2, e, e' => by
    cases h1 with
    | lst q r =>
      cases h2 with
      | lst q' r' =>
        have ev := I.list_inj q q'
        subst ev
        cases z with
        | lst zs =>
          simp only [eqO] at e e'
          have l1 := r.length
          have l2 := r'.length
          by_cases hl : xs.length = zs.length
          · rw [if_pos hl] at e
            rw [if_pos (by omega)] at e'
            exact eq_congrs I xs _ zs _ b b' r r' e e'
          · rw [if_neg hl] at e
            rw [if_neg (by omega)] at e'
            rw [e] at e'; cases e'; rfl
        | _ => simp [eqO, kindD] at e e' <;> (try subst e; subst e'; rfl)
      | tup q' r' => exact (sq_apart I q' q).elim
  | .dct _ _, _, _, _, _, _, h1, _, _, _ => by cases h1
  | .obj _ _ _, _, _, _, _, _, h1, _, _, _ => by cases h1
  | .ref _, _, _, _, _, _, h1, _, _, _ => by cases h1
  | .fn _, _, _, _, _, _, h1, _, _, _ => by cases h1
theorem eq_congrs (I : Inv X pins σ H s) : ∀ (xs ys zs : List D) (vs : List V) (b b' : Bool), RVs X.K own mu H vs xs → RVs X.K own mu H vs ys → eqOs xs zs = some b → eqOs ys zs = some b' → b = b'
  | [], _, zs, _, b, b', h1, h2, e, e' => by cases h1; cases h2; rw [e] at e'; cases e'; rfl
  | x :: xs, _, [], _, b, b', h1, h2, e, e' => by
    cases h1 with
    | cons q r =>
      cases h2 with
      | cons q' r' => simp only [eqOs] at e e'; cases e; cases e'; rfl
  | x :: xs, _, z :: zs, _, b, b', h1, h2, e, e' => by
    cases h1 with
    | cons q r =>
      cases h2 with
      | cons q' r' =>
        obtain ⟨b1, b2, e1, e2, rfl⟩ := eqOs_cons e
        obtain ⟨c1, c2, e3, e4, rfl⟩ := eqOs_cons e'
        have k := eqO_kind e1
        have k' := eqO_kind e3
        rw [eq_congr I x _ z _ b1 c1 (q.rb k.1) (q'.rb k'.1) e1 e3, eq_congrs I xs _ zs _ b2 c2 r r' e2 e4]
end
theorem eqD_some {x y : D} {b : Bool} (h : eqD x y = some b) : min (dep x) (dep y) ≤ 60 ∧ eqO x y = some b := by
  unfold eqD at h
  split at h
  · exact ⟨by assumption, h⟩
  · cases h
theorem inOs_cons {x y : D} {ys : List D} {b : Bool} (h : inOs x (y :: ys) = some b) : ∃ b1 b2, eqD y x = some b1 ∧ inOs x ys = some b2 ∧ b = (b1 || b2) := by
  simp only [inOs] at h
  cases e1 : eqD y x with
  | none => rw [e1] at h; cases h
  | some b1 =>
    cases e2 : inOs x ys with
    | none => rw [e1, e2] at h; cases h
    | some b2 => rw [e1, e2] at h; cases h; exact ⟨b1, b2, rfl, rfl, rfl⟩
/-- the items' answers -/
theorem in_bits (I : Inv X pins σ H s) {x : D} {vx : V} {u : Value} {A : Around} (hx : kindD x < 5 → RB X.K own mu H vx x) (ru : RelV vx u) (hu : A.units + 60 < cLine) : ∀ (ys : List D) (vs : List V) (us : List Value) (b : Bool), RVs X.K own mu H vs ys → Vals vs us → inOs x ys = some b →
    ∃ f : Nat → Bool, (∀ j (h : j < us.length), SeqAt.EqAt A s us[j] u (f j)) ∧ (∀ i j (h : i < us.length) (h' : j < us.length), us[i] = us[j] → f i = f j) ∧ ((List.range us.length).any f) = b
  | [], _, us, b, h1, r1, e => by
    cases h1; cases r1; simp only [inOs] at e; cases e
    exact ⟨fun _ => false, fun j h => absurd h (Nat.not_lt_zero _), fun i j h => absurd h (Nat.not_lt_zero _), rfl⟩
  | y :: ys, vs, us, b, h1, r1, e => by
    have all : ∀ (j : Nat) (h : j < us.length), ∃ bj yj vj, (y :: ys)[j]? = some yj ∧ vs[j]? = some vj ∧ RB X.K own mu H vj yj ∧ RelV vj us[j] ∧ eqD yj x = some bj := by
      intro j h
      have hl : us.length = (y :: ys).length := r1.length.symm.trans h1.length
      have gen : ∀ (l : List D) (b : Bool) (j : Nat), inOs x l = some b → j < l.length → ∃ bj yj, l[j]? = some yj ∧ eqD yj x = some bj := by
        intro l
        induction l with
        | nil => intro b j _ h; exact absurd h (Nat.not_lt_zero _)
        | cons z zs ih =>
          intro b j e h
          obtain ⟨b1, b2, e1, e2, _⟩ := inOs_cons e
          cases j with
          | zero => exact ⟨b1, z, rfl, e1⟩
          | succ j => exact ih b2 j e2 (Nat.lt_of_succ_lt_succ h)
      obtain ⟨bj, yj, hy, he⟩ := gen _ b j e (by omega)
      obtain ⟨vj, hv, rv⟩ := h1.get hy
      obtain ⟨uj, hu', rj⟩ := r1.get hv
      have : us[j] = uj := by
        have := List.getElem?_eq_getElem h
        rw [this] at hu'
        exact Option.some.inj hu'
      rw [this]
      exact ⟨bj, yj, vj, hy, hv, rv.rb (eqO_kind (eqD_some he).2).1, rj, he⟩
    have gen2 : ∀ (l : List D) (b : Bool), inOs x l = some b → ((List.range l.length).any fun j => ((l[j]?).bind fun y => eqD y x).getD false) = b := by
      intro l
      induction l with
      | nil => intro b e; simp only [inOs] at e; cases e; rfl
      | cons z zs ih =>
        intro b e
        obtain ⟨b1, b2, e1, e2, rfl⟩ := inOs_cons e
        rw [List.length_cons, List.range_succ_eq_map]
        simp only [List.any_cons, List.any_map, Function.comp_def]
        rw [← ih b2 e2]
        simp [e1]
    have hl : us.length = (y :: ys).length := r1.length.symm.trans h1.length
    refine ⟨fun j => (((y :: ys)[j]?).bind fun y => eqD y x).getD false, fun j h => ?_, fun i j h h' eij => ?_, by rw [hl]; exact gen2 _ b e⟩
    · obtain ⟨bj, yj, vj, hy, hv, rb, rj, he⟩ := all j h
      dsimp only
      rw [hy]
      simp only [Option.bind_some, he, Option.getD_some]
      obtain ⟨hd, he'⟩ := eqD_some he
      exact eq_ok I yj x A vj vx us[j] u bj rb (hx (eqO_kind he').2) rj ru he' (by omega)
    · obtain ⟨bi, yi, vi, hyi, hvi, rbi, ri, hei⟩ := all i h
      obtain ⟨bj, yj, vj, hyj, hvj, rbj, rj, hej⟩ := all j h'
      dsimp only
      rw [hyi, hyj]
      simp only [Option.bind_some, hei, hej, Option.getD_some]
      have ev : vi = vj := by rw [eij] at ri; exact ri.inj rj
      subst ev
      exact eq_congr I yi yj x vi bi bj rbi rbj (eqD_some hei).2 (eqD_some hej).2
theorem in_fun {us : List Value} {f : Nat → Bool} (h : ∀ i j (h : i < us.length) (h' : j < us.length), us[i] = us[j] → f i = f j) : ∃ e : Value → Bool, (∀ j (h : j < us.length), e us[j] = f j) ∧ us.any e = (List.range us.length).any f := by
  classical
  refine ⟨fun u => decide (∃ j, ∃ h : j < us.length, us[j] = u ∧ f j = true), fun j hj => ?_, ?_⟩
  · cases hf : f j with
    | true => exact decide_eq_true ⟨j, hj, rfl, hf⟩
    | false =>
      refine decide_eq_false fun ⟨i, hi, e, ft⟩ => ?_
      rw [h i j hi hj e, hf] at ft
      cases ft
  · rw [Bool.eq_iff_iff]
    simp only [List.any_eq_true, List.mem_range]
    constructor
    · rintro ⟨u, hu, hd⟩
      obtain ⟨j, hj, _, ft⟩ := of_decide_eq_true hd
      exact ⟨j, hj, ft⟩
    · rintro ⟨j, hj, ft⟩
      exact ⟨us[j], List.getElem_mem hj, decide_eq_true ⟨j, hj, rfl, ft⟩⟩
end

section
variable {X : Cx}
def rCatL (K : PySem.W.Frag) : R2 := fun x y H Q => ∃ l b xs zs, x = .ref l ∧ y = .ref b ∧ SqL K H l xs ∧ SqL K H b zs ∧ xs.length + zs.length ≤ sizeLine ∧ ∀ p, H p = none → Q (.ref p) (upd H p (.lst (xs ++ zs)))
theorem op_catL : OpR X (binaryOp .Add) (rCatL X.K) := by
  intro pins s σ H x y v u Q I rx ry h
  obtain ⟨l, b, xs, zs, rfl, rfl, hH, hB, hz, q⟩ := h
  cases rx
  cases ry
  obtain ⟨its, r, ⟨o, n, e, c, dd, hd⟩, hl⟩ := I.list hH
  obtain ⟨its2, r2, ⟨o2, n2, e2, c2, dd2, hd2⟩, hl2⟩ := I.list hB
  obtain ⟨oc, od, dt, sl⟩ := o
  obtain ⟨oc2, od2, dt2, sl2⟩ := o2
  simp only at c hd c2 hd2
  subst c hd c2 hd2
  have l1 := r.length
  have l2 := r2.length
  refine concat_meets ⟨_, e, rfl⟩ ⟨_, e2, rfl⟩ noFill_list_add seq_list_add PySem.F.slot_list_add PySem.F.entry_list_add (PySem.F.args_list_add_2 _ _) (list_addW l b its.toArray its2.toArray n n2 od od2 sl sl2 (by rw [List.size_toArray, List.size_toArray]; omega)) ⟨e, e2, ?_⟩
  have ea : its.toArray ++ its2.toArray = (its ++ its2).toArray := by simp
  rw [ea]
  exact ⟨.ref _, _, I.lnew (t' := s.toks) (r.append r2) (by rw [List.length_append]; omega), rfl, q _ I.fresh⟩
/-- == and in, over what may be read -/
def rEqB (K : PySem.W.Frag) (neg : Bool) : R2 := fun x y H Q => ∃ (own : Addr → Prop) (mu : List Addr) (d e : D) (b : Bool), RB K own mu H x d ∧ RB K own mu H y e ∧ eqD d e = some b ∧ Q (.bl (if neg then !b else b)) H
theorem op_eqB (hu : X.A.units + 64 < cLine) : OpR X (compareOp .Eq) (rEqB X.K false) := by
  intro pins s σ H x y v u Q I rx ry h
  obtain ⟨own, mu, d, e, b, hd, he, hb, q⟩ := h
  obtain ⟨hm, hb'⟩ := eqD_some hb
  have key : SeqAt.RcAt X.A s v u b := by
    cases hd with
    | non =>
      cases rx
      cases he with
      | non => simp only [eqO] at hb'; cases hb'; cases ry; exact SeqAt.RcAt.none_none
      | bl c => simp [eqO, kindD] at hb'; subst hb'; cases ry; exact SeqAt.RcAt.none_bool _
      | int i => simp [eqO, kindD] at hb'; subst hb'; obtain ⟨t, rfl⟩ := ry; exact SeqAt.RcAt.none_int i t
      | str i => simp [eqO, kindD] at hb'; subst hb'; obtain ⟨t, rfl⟩ := ry; exact SeqAt.RcAt.none_str i t
      | tup qq rr => simp [eqO, kindD] at hb'; subst hb'; cases ry; obtain ⟨i2, r2, p2, _⟩ := I.tuple qq; exact SeqAt.RcAt.none_tuple (tupI p2) (by omega)
      | lst qq rr => simp [eqO, kindD] at hb'; subst hb'; cases ry; obtain ⟨i2, r2, p2, _⟩ := I.list qq; exact SeqAt.RcAt.none_list p2.isList (by omega)
    | bl a =>
      cases rx
      cases he with
      | non => simp [eqO, kindD] at hb'; subst hb'; cases ry; exact SeqAt.RcAt.bool_none _
      | bl c => simp only [eqO] at hb'; cases hb'; cases ry; exact SeqAt.RcAt.bool_bool _ _
      | int i => simp only [eqO] at hb'; cases hb'; obtain ⟨t, rfl⟩ := ry; exact SeqAt.RcAt.bool_int a i t
      | str i => simp [eqO, kindD] at hb'; subst hb'; obtain ⟨t, rfl⟩ := ry; exact SeqAt.RcAt.bool_str a i t
      | tup qq rr => simp [eqO, kindD] at hb'; subst hb'; cases ry; obtain ⟨i2, r2, p2, _⟩ := I.tuple qq; exact SeqAt.RcAt.bool_tuple _ (tupI p2) (by omega)
      | lst qq rr => simp [eqO, kindD] at hb'; subst hb'; cases ry; obtain ⟨i2, r2, p2, _⟩ := I.list qq; exact SeqAt.RcAt.bool_list _ p2.isList (by omega)
    | int a =>
      obtain ⟨t0, rfl⟩ := rx
      cases he with
      | non => simp [eqO, kindD] at hb'; subst hb'; cases ry; exact SeqAt.RcAt.int_none _ _
      | bl c => simp only [eqO] at hb'; cases hb'; cases ry; exact SeqAt.RcAt.int_bool _ _ _
      | int i => simp only [eqO] at hb'; cases hb'; obtain ⟨t, rfl⟩ := ry; exact SeqAt.RcAt.int_int a t0 i t
      | str i => simp [eqO, kindD] at hb'; subst hb'; obtain ⟨t, rfl⟩ := ry; exact SeqAt.RcAt.int_str a t0 i t
      | tup qq rr => simp [eqO, kindD] at hb'; subst hb'; cases ry; obtain ⟨i2, r2, p2, _⟩ := I.tuple qq; exact SeqAt.RcAt.int_tuple _ _ (tupI p2) (by omega)
      | lst qq rr => simp [eqO, kindD] at hb'; subst hb'; cases ry; obtain ⟨i2, r2, p2, _⟩ := I.list qq; exact SeqAt.RcAt.int_list _ _ p2.isList (by omega)
    | str a =>
      obtain ⟨t0, rfl⟩ := rx
      cases he with
      | non => simp [eqO, kindD] at hb'; subst hb'; cases ry; exact SeqAt.RcAt.str_none _ _
      | bl c => simp [eqO, kindD] at hb'; subst hb'; cases ry; exact SeqAt.RcAt.str_bool _ _ _
      | int i => simp [eqO, kindD] at hb'; subst hb'; obtain ⟨t, rfl⟩ := ry; exact SeqAt.RcAt.str_int a t0 i t
      | str i => simp only [eqO] at hb'; cases hb'; obtain ⟨t, rfl⟩ := ry; exact SeqAt.RcAt.str_str a t0 i t
      | tup qq rr => simp [eqO, kindD] at hb'; subst hb'; cases ry; obtain ⟨i2, r2, p2, _⟩ := I.tuple qq; exact SeqAt.RcAt.str_tuple _ _ (tupI p2) (by omega)
      | lst qq rr => simp [eqO, kindD] at hb'; subst hb'; cases ry; obtain ⟨i2, r2, p2, _⟩ := I.list qq; exact SeqAt.RcAt.str_list _ _ p2.isList (by omega)
    | @tup a1 vs1 xs q1 r1 =>
      cases rx
      obtain ⟨i1, rr1, p1, _⟩ := I.tuple q1
      cases he with
      | non => simp [eqO, kindD] at hb'; subst hb'; cases ry; exact SeqAt.RcAt.tuple_none (tupI p1) (by omega)
      | bl c => simp [eqO, kindD] at hb'; subst hb'; cases ry; exact SeqAt.RcAt.tuple_bool _ (tupI p1) (by omega)
      | int i => simp [eqO, kindD] at hb'; subst hb'; obtain ⟨t, rfl⟩ := ry; exact SeqAt.RcAt.tuple_int _ _ (tupI p1) (by omega)
      | str i => simp [eqO, kindD] at hb'; subst hb'; obtain ⟨t, rfl⟩ := ry; exact SeqAt.RcAt.tuple_str _ _ (tupI p1) (by omega)
      | lst qq rr => simp [eqO, kindD] at hb'; subst hb'; cases ry; obtain ⟨i2, r2, p2, _⟩ := I.list qq; exact SeqAt.RcAt.tuple_list (tupI p1) p2.isList (by omega)
      | @tup a2 vs2 ys q2 r2 =>
        cases ry
        obtain ⟨i2, rr2, p2, _⟩ := I.tuple q2
        simp only [eqO] at hb'
        simp only [dep] at hm
        obtain ⟨f, hf, hbb⟩ := eq_oks I xs ys X.A.in1 vs1 vs2 i1 i2 b r1 r2 rr1 rr2 hb' (by show X.A.units + 1 + _ < _; omega)
        rw [← hbb]
        have h3 := SeqAt.RcAt.tuples (A := X.A) (e := f) (tupI p1) (tupI p2) (by omega) (fun j h1 h2 => by
          rw [List.size_toArray] at h1 h2
          have := hf j h1 h2
          simpa using this)
        simpa using h3
    | @lst a1 vs1 xs q1 r1 =>
      cases rx
      obtain ⟨i1, rr1, p1, _⟩ := I.list q1
      cases he with
      | non => simp [eqO, kindD] at hb'; subst hb'; cases ry; exact SeqAt.RcAt.list_none p1.isList (by omega)
      | bl c => simp [eqO, kindD] at hb'; subst hb'; cases ry; exact SeqAt.RcAt.list_bool _ p1.isList (by omega)
      | int i => simp [eqO, kindD] at hb'; subst hb'; obtain ⟨t, rfl⟩ := ry; exact SeqAt.RcAt.list_int _ _ p1.isList (by omega)
      | str i => simp [eqO, kindD] at hb'; subst hb'; obtain ⟨t, rfl⟩ := ry; exact SeqAt.RcAt.list_str _ _ p1.isList (by omega)
      | tup qq rr => simp [eqO, kindD] at hb'; subst hb'; cases ry; obtain ⟨i2, r2, p2, _⟩ := I.tuple qq; exact SeqAt.RcAt.list_tuple p1.isList (tupI p2) (by omega)
      | @lst a2 vs2 ys q2 r2 =>
        cases ry
        obtain ⟨i2, rr2, p2, _⟩ := I.list q2
        have l1 : i1.length = xs.length := rr1.length.symm.trans r1.length
        have l2 : i2.length = ys.length := rr2.length.symm.trans r2.length
        simp only [eqO] at hb'
        simp only [dep] at hm
        split at hb'
        · rename_i hl
          obtain ⟨f, hf, hbb⟩ := eq_oks I xs ys X.A.in1 vs1 vs2 i1 i2 b r1 r2 rr1 rr2 hb' (by show X.A.units + 1 + _ < _; omega)
          have h3 := SeqAt.RcAt.lists (A := X.A) (e := f) p1.isList p2.isList (by simp [l1, l2, hl]) (by omega) (fun j h1 h2 => by
            rw [List.size_toArray] at h1 h2
            have := hf j h1 h2
            simpa using this)
          rw [l1, l2, hl] at hbb
          simp at hbb
          rw [show b = (List.range i1.toArray.size).all f by rw [← hbb]; simp [l1, hl]]
          exact h3
        · rename_i hl
          cases hb'
          exact SeqAt.RcAt.lists_lengths p1.isList p2.isList (by simp [l1, l2, hl]) (by omega)
  exact key _ _ _ _ ⟨.bl b, H, I, rfl, q⟩
theorem op_neB (hu : X.A.units + 64 < cLine) : OpR X (compareOp .NotEq) (rEqB X.K true) := by
  intro pins s σ H x y v u Q I rx ry h
  obtain ⟨own, mu, d, e, b, hd, he, hb, q⟩ := h
  obtain ⟨hm, hb'⟩ := eqD_some hb
  have key : SeqAt.RcNeAt X.A s v u (!b) := by
    cases hd with
    | non =>
      cases rx
      cases he with
      | non => simp only [eqO] at hb'; cases hb'; cases ry; exact SeqAt.RcNeAt.none_none
      | bl c => simp [eqO, kindD] at hb'; subst hb'; cases ry; exact SeqAt.RcNeAt.none_bool _
      | int i => simp [eqO, kindD] at hb'; subst hb'; obtain ⟨t, rfl⟩ := ry; exact SeqAt.RcNeAt.none_int i t
      | str i => simp [eqO, kindD] at hb'; subst hb'; obtain ⟨t, rfl⟩ := ry; exact SeqAt.RcNeAt.none_str i t
      | tup qq rr => simp [eqO, kindD] at hb'; subst hb'; cases ry; obtain ⟨i2, r2, p2, _⟩ := I.tuple qq; exact SeqAt.RcNeAt.none_tuple (tupI p2) (by omega)
      | lst qq rr => simp [eqO, kindD] at hb'; subst hb'; cases ry; obtain ⟨i2, r2, p2, _⟩ := I.list qq; exact SeqAt.RcNeAt.none_list p2.isList (by omega)
    | bl a =>
      cases rx
      cases he with
      | non => simp [eqO, kindD] at hb'; subst hb'; cases ry; exact SeqAt.RcNeAt.bool_none _
      | bl c => simp only [eqO] at hb'; cases hb'; cases ry; exact SeqAt.RcNeAt.bool_bool _ _
      | int i => simp only [eqO] at hb'; cases hb'; obtain ⟨t, rfl⟩ := ry; exact SeqAt.RcNeAt.bool_int a i t
      | str i => simp [eqO, kindD] at hb'; subst hb'; obtain ⟨t, rfl⟩ := ry; exact SeqAt.RcNeAt.bool_str a i t
      | tup qq rr => simp [eqO, kindD] at hb'; subst hb'; cases ry; obtain ⟨i2, r2, p2, _⟩ := I.tuple qq; exact SeqAt.RcNeAt.bool_tuple _ (tupI p2) (by omega)
      | lst qq rr => simp [eqO, kindD] at hb'; subst hb'; cases ry; obtain ⟨i2, r2, p2, _⟩ := I.list qq; exact SeqAt.RcNeAt.bool_list _ p2.isList (by omega)
    | int a =>
      obtain ⟨t0, rfl⟩ := rx
      cases he with
      | non => simp [eqO, kindD] at hb'; subst hb'; cases ry; exact SeqAt.RcNeAt.int_none _ _
      | bl c => simp only [eqO] at hb'; cases hb'; cases ry; exact SeqAt.RcNeAt.int_bool _ _ _
      | int i => simp only [eqO] at hb'; cases hb'; obtain ⟨t, rfl⟩ := ry; exact SeqAt.RcNeAt.int_int a t0 i t
      | str i => simp [eqO, kindD] at hb'; subst hb'; obtain ⟨t, rfl⟩ := ry; exact SeqAt.RcNeAt.int_str a t0 i t
      | tup qq rr => simp [eqO, kindD] at hb'; subst hb'; cases ry; obtain ⟨i2, r2, p2, _⟩ := I.tuple qq; exact SeqAt.RcNeAt.int_tuple _ _ (tupI p2) (by omega)
      | lst qq rr => simp [eqO, kindD] at hb'; subst hb'; cases ry; obtain ⟨i2, r2, p2, _⟩ := I.list qq; exact SeqAt.RcNeAt.int_list _ _ p2.isList (by omega)
    | str a =>
      obtain ⟨t0, rfl⟩ := rx
      cases he with
      | non => simp [eqO, kindD] at hb'; subst hb'; cases ry; exact SeqAt.RcNeAt.str_none _ _
      | bl c => simp [eqO, kindD] at hb'; subst hb'; cases ry; exact SeqAt.RcNeAt.str_bool _ _ _
      | int i => simp [eqO, kindD] at hb'; subst hb'; obtain ⟨t, rfl⟩ := ry; exact SeqAt.RcNeAt.str_int a t0 i t
      | str i => simp only [eqO] at hb'; cases hb'; obtain ⟨t, rfl⟩ := ry; exact SeqAt.RcNeAt.str_str a t0 i t
      | tup qq rr => simp [eqO, kindD] at hb'; subst hb'; cases ry; obtain ⟨i2, r2, p2, _⟩ := I.tuple qq; exact SeqAt.RcNeAt.str_tuple _ _ (tupI p2) (by omega)
      | lst qq rr => simp [eqO, kindD] at hb'; subst hb'; cases ry; obtain ⟨i2, r2, p2, _⟩ := I.list qq; exact SeqAt.RcNeAt.str_list _ _ p2.isList (by omega)
    | @tup a1 vs1 xs q1 r1 =>
      cases rx
      obtain ⟨i1, rr1, p1, _⟩ := I.tuple q1
      cases he with
      | non => simp [eqO, kindD] at hb'; subst hb'; cases ry; exact SeqAt.RcNeAt.tuple_none (tupI p1) (by omega)
      | bl c => simp [eqO, kindD] at hb'; subst hb'; cases ry; exact SeqAt.RcNeAt.tuple_bool _ (tupI p1) (by omega)
      | int i => simp [eqO, kindD] at hb'; subst hb'; obtain ⟨t, rfl⟩ := ry; exact SeqAt.RcNeAt.tuple_int _ _ (tupI p1) (by omega)
      | str i => simp [eqO, kindD] at hb'; subst hb'; obtain ⟨t, rfl⟩ := ry; exact SeqAt.RcNeAt.tuple_str _ _ (tupI p1) (by omega)
      | lst qq rr => simp [eqO, kindD] at hb'; subst hb'; cases ry; obtain ⟨i2, r2, p2, _⟩ := I.list qq; exact SeqAt.RcNeAt.tuple_list (tupI p1) p2.isList (by omega)
      | @tup a2 vs2 ys q2 r2 =>
        cases ry
        obtain ⟨i2, rr2, p2, _⟩ := I.tuple q2
        simp only [eqO] at hb'
        simp only [dep] at hm
        obtain ⟨f, hf, hbb⟩ := eq_oks I xs ys X.A.in1 vs1 vs2 i1 i2 b r1 r2 rr1 rr2 hb' (by show X.A.units + 1 + _ < _; omega)
        rw [← hbb]
        have h3 := SeqAt.RcNeAt.tuples (A := X.A) (e := f) (tupI p1) (tupI p2) (by omega) (fun j h1 h2 => by
          rw [List.size_toArray] at h1 h2
          have := hf j h1 h2
          simpa using this)
        simpa using h3
    | @lst a1 vs1 xs q1 r1 =>
      cases rx
      obtain ⟨i1, rr1, p1, _⟩ := I.list q1
      cases he with
      | non => simp [eqO, kindD] at hb'; subst hb'; cases ry; exact SeqAt.RcNeAt.list_none p1.isList (by omega)
      | bl c => simp [eqO, kindD] at hb'; subst hb'; cases ry; exact SeqAt.RcNeAt.list_bool _ p1.isList (by omega)
      | int i => simp [eqO, kindD] at hb'; subst hb'; obtain ⟨t, rfl⟩ := ry; exact SeqAt.RcNeAt.list_int _ _ p1.isList (by omega)
      | str i => simp [eqO, kindD] at hb'; subst hb'; obtain ⟨t, rfl⟩ := ry; exact SeqAt.RcNeAt.list_str _ _ p1.isList (by omega)
      | tup qq rr => simp [eqO, kindD] at hb'; subst hb'; cases ry; obtain ⟨i2, r2, p2, _⟩ := I.tuple qq; exact SeqAt.RcNeAt.list_tuple p1.isList (tupI p2) (by omega)
      | @lst a2 vs2 ys q2 r2 =>
        cases ry
        obtain ⟨i2, rr2, p2, _⟩ := I.list q2
        have l1 : i1.length = xs.length := rr1.length.symm.trans r1.length
        have l2 : i2.length = ys.length := rr2.length.symm.trans r2.length
        simp only [eqO] at hb'
        simp only [dep] at hm
        split at hb'
        · rename_i hl
          obtain ⟨f, hf, hbb⟩ := eq_oks I xs ys X.A.in1 vs1 vs2 i1 i2 b r1 r2 rr1 rr2 hb' (by show X.A.units + 1 + _ < _; omega)
          have h3 := SeqAt.RcNeAt.lists (A := X.A) (e := f) p1.isList p2.isList (by simp [l1, l2, hl]) (by omega) (fun j h1 h2 => by
            rw [List.size_toArray] at h1 h2
            have := hf j h1 h2
            simpa using this)
          rw [l1, l2, hl] at hbb
          simp at hbb
          rw [show b = (List.range i1.toArray.size).all f by rw [← hbb]; simp [l1, hl]]
          exact h3
        · rename_i hl
          cases hb'
          exact SeqAt.RcNeAt.lists_lengths p1.isList p2.isList (by simp [l1, l2, hl]) (by omega)
  exact key _ _ _ _ ⟨.bl (!b), H, I, rfl, q⟩
end
end DL

set_option Elab.async false
set_option linter.all false
set_option maxRecDepth 100000
set_option maxHeartbeats 4000000
/-! the deep layer: operations, by what they mean -/
namespace DL
open PySem PySem.Spec PyProof.Rows L2

def pyOp : Op2 → Operator
  | .add => .Add | .sub => .Sub | .mul => .Mult | .fdiv => .FloorDiv | .mod => .Mod | .pow => .Pow
def pyCp : Cp → CmpOp
  | .eq => .Eq | .ne => .NotEq | .lt => .Lt | .le => .LtE | .gt => .Gt | .ge => .GtE | .isin => .In | .notin => .NotIn
/-- two values and what comes of them -/
def rF2 (K : PySem.W.Frag) (f : D → D → Option D) : R2 := fun x y H Q => ∃ mu g d e z, Sim K mu g H ∧ RV K (Own mu g) mu H x d ∧ RV K (Own mu g) mu H y e ∧ f (rd g d) (rd g e) = some z ∧ Kt K mu g H g z Q
theorem rd_tup_eq {g : G} {d : D} {ds : List D} (e : rd g d = .tup ds) : d = .tup ds := by
  cases d with
  | ref n =>
    exfalso
    simp only [rd] at e
    cases hg : g[n]? with
    | none => rw [hg] at e; cases e
    | some o => rw [hg] at e; cases o <;> cases e
  | _ => exact e
section
variable {X : Cx}
theorem op2_ok (op : Op2) : OpR X (binaryOp (pyOp op)) (rF2 X.K (op2 op)) := by
  intro pins s σ H x y v u Q I rx ry ⟨mu, g, d, e, z, S, hx, hy, h, k⟩
  unfold op2 at h
  split at h
  · rename_i i j e1 e2
    cases h
    exact op_add pins s σ H x y v u Q I rx ry ⟨i, j, rd_int hx e1, rd_int hy e2, k.flat S (.int _)⟩
  · rename_i i j e1 e2
    split at h
    · rename_i hl
      cases h
      exact op_add_str pins s σ H x y v u Q I rx ry ⟨i, j, rd_str hx e1, rd_str hy e2, hl, k.flat S (.str _)⟩
    · cases h
  · rename_i xs ys e1 e2
    split at h
    · rename_i hl
      cases h
      obtain ⟨a, vs, rfl, q1, r1⟩ := rd_tup hx e1
      obtain ⟨b, ws, rfl, q2, r2⟩ := rd_tup hy e2
      have l1 := r1.length
      have l2 := r2.length
      refine op_catA pins s σ H _ _ v u Q I rx ry ⟨a, b, vs, ws, rfl, rfl, q1, q2, by omega, fun h0 => ?_, fun h0 h1 => ?_, fun h0 h1 => ?_⟩
      · have : xs = [] := r1.nil_iff.mp h0
        subst this
        have e2' : e = .tup ys := rd_tup_eq e2
        subst e2'
        exact k.flat S (by simpa using hy)
      · have : ys = [] := r2.nil_iff.mp h1
        subst this
        have e1' : d = .tup xs := rd_tup_eq e1
        subst e1'
        exact k.flat S (by simpa using hx)
      · exact Kt.newTup S (r1.append r2) k
    · cases h
  · rename_i xs ys e1 e2
    split at h
    · rename_i hl
      cases h
      obtain ⟨a, vs, rfl, q1, r1⟩ := rd_lst S hx e1
      obtain ⟨b, ws, rfl, q2, r2⟩ := rd_lst S hy e2
      have l1 := r1.length
      have l2 := r2.length
      exact op_catL pins s σ H _ _ v u Q I rx ry ⟨a, b, vs, ws, rfl, rfl, q1, q2, by omega, Kt.newLst S (r1.append r2) k⟩
    · cases h
  · rename_i i j e1 e2
    cases h
    exact op_sub pins s σ H x y v u Q I rx ry ⟨i, j, rd_int hx e1, rd_int hy e2, k.flat S (.int _)⟩
  · rename_i i j e1 e2
    split at h
    · rename_i hl
      cases h
      have e1' := rd_int hx e1
      have e2' := rd_int hy e2
      rcases hl with hl | hl | hl
      · exact op_mul pins s σ H x y v u Q I rx ry ⟨i, j, e1', e2', .inl ⟨by omega, by omega⟩, k.flat S (.int _)⟩
      · exact op_mul pins s σ H x y v u Q I rx ry ⟨i, j, e1', e2', .inr ⟨by omega, by omega⟩, k.flat S (.int _)⟩
      · exact op_mulW pins s σ H x y v u Q I rx ry ⟨i, j, e1', e2', hl, k.flat S (.int _)⟩
    · cases h
  · rename_i i j e1 e2
    split at h
    · rename_i hl
      cases h
      exact op_fdivW pins s σ H x y v u Q I rx ry ⟨i, j, rd_int hx e1, rd_int hy e2, hl, k.flat S (.int _)⟩
    · cases h
  · rename_i i j e1 e2
    split at h
    · rename_i hl
      cases h
      exact op_mod pins s σ H x y v u Q I rx ry ⟨i, j, rd_int hx e1, rd_int hy e2, hl, k.flat S (.int _)⟩
    · cases h
  · rename_i i j e1 e2
    split at h
    · rename_i hl
      cases h
      exact op_pow pins s σ H x y v u Q I rx ry ⟨i, j, rd_int hx e1, rd_int hy e2, hl, k.flat S (.int _)⟩
    · cases h
  · cases h

/-- the items of what may be read -/
theorem in_seq_run (hu : X.A.units + 64 < cLine) {pins : List (Addr × Obj)} {s : Shared} {σ : L2.St} {H : Hp} {x : V} {v : Value} {own : Addr → Prop} {mu : List Addr} {d : D} {ys : List D} {b : Bool} (I : Inv X pins σ H s) (rx : RelV x v) (hx : kindD d < 5 → RB X.K own mu H x d)
    {vs : List V} {us : List Value} (r : RVs X.K own mu H vs ys) (rv : Vals vs us) (h : inOs d ys = some b) : ∃ e : Value → Bool, (∀ y, y ∈ us → SeqAt.EqAt X.A.in1 s y v (e y)) ∧ us.any e = b := by
  obtain ⟨f, h1, h2, h3⟩ := in_bits (A := X.A.in1) I hx rx (by show X.A.units + 1 + 60 < _; omega) ys vs us b r rv h
  obtain ⟨e, e1, e2⟩ := in_fun h2
  refine ⟨e, fun y hy => ?_, e2.trans h3⟩
  obtain ⟨j, hj, rfl⟩ := List.mem_iff_getElem.mp hy
  rw [e1 j hj]
  exact h1 j hj
theorem kOf_dOf {d : D} {k : Key} (h : keyOf d = some k) : d = dOf k := by
  cases d <;> simp [keyOf] at h <;> subst h <;> rfl
theorem RV.key {K : PySem.W.Frag} {own : Addr → Prop} {mu : List Addr} {H : Hp} {v : V} {k : Key} (h : RV K own mu H v (dOf k)) : v = kV k := by
  cases k <;> cases h <;> rfl
theorem RV.key' {K : PySem.W.Frag} {own : Addr → Prop} {mu : List Addr} {H : Hp} {d : D} {k : Key} (h : RV K own mu H (kV k) d) : d = dOf k := by
  cases k <;> cases h <;> rfl
theorem keyOf_dOf (k : Key) : keyOf (dOf k) = some k := by cases k <;> rfl
/-- a dict's table -/
theorem dlook_ok {K : PySem.W.Frag} {own : Addr → Prop} {mu : List Addr} {H : Hp} {k : Key} : ∀ {kvs : List (Key × V)} {ks vs : List D}, RVs K own mu H (kvs.map fun p => kV p.1) ks → RVs K own mu H (kvs.map (·.2)) vs →
    (∃ d v, dlook ks vs k = some d ∧ valV kvs k = some v ∧ RV K own mu H v d) ∨ (dlook ks vs k = none ∧ valV kvs k = none)
  | [], _, _, r, r' => by cases r; cases r'; exact .inr ⟨rfl, rfl⟩
  | (k0, v0) :: kvs, _, _, r, r' => by
    cases r with
    | cons h t =>
      cases r' with
      | cons h' t' =>
        have e := h.key'
        subst e
        by_cases hk : k0 = k
        · subst hk
          refine .inl ⟨_, v0, by simp [dlook, keyOf_dOf], valV_pos rfl, h'⟩
        · rw [valV_neg hk]
          simp only [dlook, keyOf_dOf, Option.some.injEq, if_neg hk]
          exact dlook_ok t t'
theorem cp_ok (op : Cp) (hu : X.A.units + 64 < cLine) : OpR X (compareOp (pyCp op)) (rF2 X.K fun d e => (cmpD op d e).map D.bl) := by
  intro pins s σ H x y v u Q I rx ry ⟨mu, g, d, e, z, S, hx, hy, h, k⟩
  obtain ⟨b, hb, rfl⟩ := Option.map_eq_some_iff.mp h
  have kb : Q (.bl b) H := k.flat S (.bl _)
  unfold cmpD at hb
  split at hb
  · have kk := eqO_kind (eqD_some hb).2
    exact op_eqB hu pins s σ H x y v u Q I rx ry ⟨_, mu, _, _, b, rd_rb S hx kk.1, rd_rb S hy kk.2, hb, kb⟩
  · obtain ⟨b', hb', rfl⟩ := Option.map_eq_some_iff.mp hb
    have kk := eqO_kind (eqD_some hb').2
    exact op_neB hu pins s σ H x y v u Q I rx ry ⟨_, mu, _, _, b', rd_rb S hx kk.1, rd_rb S hy kk.2, hb', kb⟩
  · rename_i i j e1 e2
    cases hb
    exact op_lt pins s σ H x y v u Q I rx ry ⟨i, j, rd_int hx e1, rd_int hy e2, kb⟩
  · rename_i i j e1 e2
    cases hb
    exact op_le pins s σ H x y v u Q I rx ry ⟨i, j, rd_int hx e1, rd_int hy e2, kb⟩
  · rename_i i j e1 e2
    cases hb
    exact op_gt pins s σ H x y v u Q I rx ry ⟨i, j, rd_int hx e1, rd_int hy e2, kb⟩
  · rename_i i j e1 e2
    cases hb
    exact op_ge pins s σ H x y v u Q I rx ry ⟨i, j, rd_int hx e1, rd_int hy e2, kb⟩
  · unfold inD at hb
    split at hb
    · rename_i ys e2
      obtain ⟨a, vs, rfl, q2, r2⟩ := rd_tup hy e2
      cases ry
      obtain ⟨its, rv, pl, _⟩ := I.tuple q2
      obtain ⟨f, f1, f2⟩ := in_seq_run hu I rx (fun hk => rd_rb S hx hk) r2 rv hb
      refine SeqAt.in_tupleAt f (tupI pl) (fun w hw => f1 w (by simpa using hw)) ⟨.bl _, H, I, rfl, ?_⟩
      rw [show its.toArray.any f = its.any f by simp, f2]
      exact kb
    · rename_i ys e2
      obtain ⟨a, vs, rfl, q2, r2⟩ := rd_lst S hy e2
      cases ry
      obtain ⟨its, rv, pl, _⟩ := I.list q2
      obtain ⟨f, f1, f2⟩ := in_seq_run hu I rx (fun hk => rd_rb S hx hk) r2 rv hb
      refine SeqAt.in_listAt f pl.isList (fun w hw => f1 w (by simpa using hw)) ⟨.bl _, H, I, rfl, ?_⟩
      rw [show its.toArray.any f = its.any f by simp, f2]
      exact kb
    · rename_i ks vs e2
      obtain ⟨a, kvs, rfl, q2, r2, r3⟩ := rd_dct S hy e2
      cases ry
      split at hb
      · rename_i ky e3
        cases hb
        have e4 := kOf_dOf e3
        have e5 : x = kV ky := by
          cases ky with
          | inl i => exact rd_int hx e4
          | inr i => exact rd_str hx e4
        subst e5
        refine d_in (by omega) I (.inl ⟨kvs, ky, q2, rfl, rfl⟩) rx fun s' I' => ⟨.bl _, H, I', rfl, ?_⟩
        have : (valV kvs ky).isSome = (dlook ks vs ky).isSome := by
          rcases dlook_ok (k := ky) r2 r3 with ⟨d1, v1, e1, e2, _⟩ | ⟨e1, e2⟩ <;> rw [e1, e2] <;> rfl
        rw [this]
        exact kb
      · cases hb
    · rename_i yy e2
      split at hb
      · rename_i xx e1
        cases hb
        have e1' := rd_str hx e1
        have e2' := rd_str hy e2
        unfold strIn at kb
        split at kb
        · rename_i c ec
          refine op_in_sign pins s σ H x y v u Q I rx ry ⟨c, yy, ?_, e2', kb⟩
          rw [e1']
          congr 1
          exact TL.ext_tl (by rw [TL.tl_mk [c]]; exact ec)
        · exact op_in_str pins s σ H x y v u Q I rx ry ⟨xx, yy, e1', e2', kb⟩
      · cases hb
    · cases hb
  · obtain ⟨b', hb', rfl⟩ := Option.map_eq_some_iff.mp hb
    unfold inD at hb'
    split at hb'
    · rename_i ys e2
      obtain ⟨a, vs, rfl, q2, r2⟩ := rd_tup hy e2
      cases ry
      obtain ⟨its, rv, pl, _⟩ := I.tuple q2
      obtain ⟨f, f1, f2⟩ := in_seq_run hu I rx (fun hk => rd_rb S hx hk) r2 rv hb'
      refine SeqAt.notIn_tupleAt f (tupI pl) (fun w hw => f1 w (by simpa using hw)) ⟨.bl _, H, I, rfl, ?_⟩
      rw [show its.toArray.any f = its.any f by simp, f2]
      exact kb
    · rename_i ys e2
      obtain ⟨a, vs, rfl, q2, r2⟩ := rd_lst S hy e2
      cases ry
      obtain ⟨its, rv, pl, _⟩ := I.list q2
      obtain ⟨f, f1, f2⟩ := in_seq_run hu I rx (fun hk => rd_rb S hx hk) r2 rv hb'
      refine SeqAt.notIn_listAt f pl.isList (fun w hw => f1 w (by simpa using hw)) ⟨.bl _, H, I, rfl, ?_⟩
      rw [show its.toArray.any f = its.any f by simp, f2]
      exact kb
    · rename_i ks vs e2
      obtain ⟨a, kvs, rfl, q2, r2, r3⟩ := rd_dct S hy e2
      cases ry
      split at hb'
      · rename_i ky e3
        cases hb'
        have e4 := kOf_dOf e3
        have e5 : x = kV ky := by
          cases ky with
          | inl i => exact rd_int hx e4
          | inr i => exact rd_str hx e4
        subst e5
        refine d_notIn (by omega) I (.inl ⟨kvs, ky, q2, rfl, rfl⟩) rx fun s' I' => ⟨.bl _, H, I', rfl, ?_⟩
        have : (valV kvs ky).isSome = (dlook ks vs ky).isSome := by
          rcases dlook_ok (k := ky) r2 r3 with ⟨d1, v1, e1, e2, _⟩ | ⟨e1, e2⟩ <;> rw [e1, e2] <;> rfl
        rw [this]
        exact kb
      · cases hb'
    · rename_i yy e2
      split at hb'
      · rename_i xx e1
        cases hb'
        have e1' := rd_str hx e1
        have e2' := rd_str hy e2
        unfold strIn at kb
        split at kb
        · rename_i c ec
          refine op_notIn_sign pins s σ H x y v u Q I rx ry ⟨c, yy, ?_, e2', kb⟩
          rw [e1']
          congr 1
          exact TL.ext_tl (by rw [TL.tl_mk [c]]; exact ec)
        · exact op_notin_str pins s σ H x y v u Q I rx ry ⟨xx, yy, e1', e2', kb⟩
      · cases hb'
    · cases hb'
  · cases hb
/-- a value's truth -/
theorem tru_of {K : PySem.W.Frag} {mu : List Addr} {g : G} {H : Hp} {v : V} {d : D} {b : Bool} (S : Sim K mu g H) (h : RV K (Own mu g) mu H v d) (e : truD (rd g d) = some b) : TruV K v H b := by
  unfold truD at e
  split at e
  · rename_i e1; cases e; rw [rd_non h e1]; rfl
  · rename_i e1; cases e; rw [rd_bl h e1]; rfl
  · rename_i e1; cases e; rw [rd_int h e1]; rfl
  · rename_i e1
    split at e
    · cases e; rw [rd_str h e1]; exact ⟨by assumption, rfl⟩
    · cases e
  · rename_i e1; cases e; obtain ⟨a, vs, rfl, q, r⟩ := rd_tup h e1; exact .inr (.inl ⟨vs, q, by rw [r.isEmpty]⟩)
  · rename_i e1; cases e; obtain ⟨a, vs, rfl, q, r⟩ := rd_lst S h e1; exact .inl ⟨vs, q, by rw [r.isEmpty]⟩
  · cases e
end
end DL

set_option Elab.async false
set_option linter.all false
set_option maxRecDepth 100000
set_option maxHeartbeats 4000000
/-! the deep layer: expressions, one construct at a time -/
namespace DL
open PySem PySem.Spec PyProof.Rows L2

section
variable {K : PySem.W.Frag} {Xk : XK} {mu : List Addr} {g : G} {H : Hp} {α β : Type}
theorem Wp.bd {m : M α} {k : α → M β} {Q : List Addr → G → Hp → β → Prop} (h : Wp K Xk mu g H ((m >>= k) g) Q) : Wp K Xk mu g H (m g) (fun mu' g' H' a => Wp K Xk mu' g' H' (k a g') Q) := Wp.bind h
theorem Wp.optI {o : Option α} {Q : List Addr → G → Hp → α → Prop} (h : Wp K Xk mu g H (optM o g) Q) : ∃ a, o = some a ∧ ∀ mu' H', Ext mu g H mu' g H' → Sim K mu' g H' → Q mu' g H' a := by
  cases o with
  | some a => exact ⟨a, rfl, h⟩
  | none => exact h.elim
theorem Wp.rdI {d : D} {k : D → M β} {Q : List Addr → G → Hp → β → Prop} (h : Wp K Xk mu g H ((rdM d >>= k) g) Q) : Wp K Xk mu g H (k (rd g d) g) Q := h
theorem Wp.needI {c : Prop} [Decidable c] {k : Unit → M β} {Q : List Addr → G → Hp → β → Prop} (h : Wp K Xk mu g H ((needM c >>= k) g) Q) : c ∧ Wp K Xk mu g H (k () g) Q := by
  by_cases hc : c
  · refine ⟨hc, ?_⟩
    have e : (needM c >>= k) g = k () g := by
      show (needM c g).bind k = _
      unfold needM
      rw [if_pos hc]
      rfl
    rwa [e] at h
  · have e : (needM c >>= k) g = .bad := by
      show (needM c g).bind k = _
      unfold needM
      rw [if_neg hc]
      rfl
    rw [e] at h
    exact h.elim
theorem Wp.optB {o : Option α} {k : α → M β} {Q : List Addr → G → Hp → β → Prop} (h : Wp K Xk mu g H ((optM o >>= k) g) Q) : ∃ a, o = some a ∧ Wp K Xk mu g H (k a g) Q := by
  cases o with
  | some a => exact ⟨a, rfl, h⟩
  | none => exact h.elim
end

section
variable {X : Cx} {W : WX} {a b c e : Expr} {Fa Fb Fc : FE} {pos : Pos}
theorem s_v {i : Nat} {x : Str} (hN : X.N[i]? = some x) (hv : Vis X.env.scope x) (hd : (x == ("__debug__" : Str)) = false) (hcd : (x == ("__classdict__" : Str)) = false) : PE X (.Name x pos) (tE X.K W fun ρ => optM (slot ρ i)) :=
  pe_mono (pe_var hN hv hd hcd) fun σ H Q ⟨mu, g, ρ, S, R, h⟩ => by
    obtain ⟨d, hd, k⟩ := Wp.optI h
    obtain ⟨v, e, r⟩ := R.at_ i d (slot_some hd)
    exact ⟨v, e, k mu H .refl S v r⟩
theorem s_c {v : V} {d : D} (h : PE X e (tC v)) (hr : ∀ own mu H, RV X.K own mu H v d) : PE X e (tE X.K W fun _ => pure d) :=
  pe_mono h fun σ H Q ⟨mu, g, ρ, S, R, h⟩ => Wp.here S h v (hr _ _ _)
/-- a module's constant -/
theorem s_gl {x : Str} {u : Value} {v : V} {o : Option D} (hg : Gl X x) (hd : (x == ("__debug__" : Str)) = false) (ho : ∀ d, o = some d → ∃ u v, X.mg x = some u ∧ RelV v u ∧ ∀ own mu H, RV X.K own mu H v d) : PE X (.Name x pos) (tE X.K W fun _ => optM o) := by
  cases o with
  | none => exact pe_bad fun σ H Q ⟨mu, g, ρ, S, R, h⟩ => h
  | some d =>
    obtain ⟨u, v, hm, r, hr⟩ := ho d rfl
    exact s_c (pe_glob hg hm r hd) hr
theorem s_bin {op : Operator} {f : D → D → Option D} (ho : OpR X (binaryOp op) (rF2 X.K f)) (ha : PE X a (tE X.K W Fa)) (hb : PE X b (tE X.K W Fb)) : PE X (.BinOp a op b pos) (tE X.K W fun ρ => do
    let x ← Fa ρ
    let y ← Fb ρ
    let x ← rdM x
    let y ← rdM y
    optM (f x y)) :=
  pe_mono (pe_op ho ha hb) fun σ H Q ⟨mu, g, ρ, S, R, h⟩ => ⟨mu, g, ρ, S, R, (Wp.bd h).mono fun mu1 g1 H1 d1 e1 S1 h1 v1 r1 => ⟨mu1, g1, ρ, S1, R.ext e1, (Wp.bd h1).mono fun mu2 g2 H2 d2 e2 S2 h2 v2 r2 =>
    let ⟨z, hz, k⟩ := Wp.optI (Wp.rdI (Wp.rdI h2))
    ⟨mu2, g2, d1, d2, z, S2, r1.ext e2, r2, hz, k⟩⟩⟩
theorem s_neg (ha : PE X a (tE X.K W Fa)) : PE X (.UnaryOp .USub a pos) (tE X.K W fun ρ => do
    let x ← Fa ρ
    match x with
    | .int i => pure (.int (-i))
    | _ => M.bad) :=
  pe_mono (pe_un un_neg ha) fun σ H Q ⟨mu, g, ρ, S, R, h⟩ => ⟨mu, g, ρ, S, R, (Wp.bd h).mono fun mu1 g1 H1 d1 e1 S1 h1 v1 r1 => by
    cases d1 with
    | int i => exact ⟨i, r1.int_inv, Wp.here S1 h1 _ (.int _)⟩
    | _ => exact h1.elim⟩
theorem s_not (ha : PE X a (tE X.K W Fa)) : PE X (.UnaryOp .Not a pos) (tE X.K W fun ρ => do
    let x ← Fa ρ
    let x ← rdM x
    let b ← optM (truD x)
    pure (.bl (!b))) :=
  pe_mono (pe_notT ha) fun σ H Q ⟨mu, g, ρ, S, R, h⟩ => ⟨mu, g, ρ, S, R, (Wp.bd h).mono fun mu1 g1 H1 d1 e1 S1 h1 v1 r1 =>
    let ⟨b, hb, k⟩ := Wp.optB (Wp.rdI h1)
    ⟨b, tru_of S1 r1 hb, Wp.here S1 k _ (.bl _)⟩⟩
theorem s_cmp {op : CmpOp} {f : D → D → Option Bool} (hm : behindInMarks op b = false) (ho : OpR X (compareOp op) (rF2 X.K fun d e => (f d e).map D.bl)) (ha : PE X a (tE X.K W Fa)) (hb : PE X b (tE X.K W Fb)) : PE X (.Compare a [op] [b] pos) (tE X.K W fun ρ => do
    let x ← Fa ρ
    let y ← Fb ρ
    let x ← rdM x
    let y ← rdM y
    let b ← optM (f x y)
    pure (.bl b)) :=
  pe_mono (pe_cmpR ho ha hb hm) fun σ H Q ⟨mu, g, ρ, S, R, h⟩ => ⟨mu, g, ρ, S, R, (Wp.bd h).mono fun mu1 g1 H1 d1 e1 S1 h1 v1 r1 => ⟨mu1, g1, ρ, S1, R.ext e1, (Wp.bd h1).mono fun mu2 g2 H2 d2 e2 S2 h2 v2 r2 =>
    let ⟨z, hz, k⟩ := Wp.optB (Wp.rdI (Wp.rdI h2))
    ⟨mu2, g2, d1, d2, .bl z, S2, r1.ext e2, r2, congrArg (Option.map D.bl) hz, k⟩⟩⟩
/-- the test of a comparison -/
theorem st_cmp {op : CmpOp} {f : D → D → Option Bool} (hm : behindInMarks op b = false) (ho : OpR X (compareOp op) (rF2 X.K fun d e => (f d e).map D.bl)) (ha : PE X a (tE X.K W Fa)) (hb : PE X b (tE X.K W Fb)) : PT X (.Compare a [op] [b] pos) (tT X.K W fun ρ => do
    let x ← Fa ρ
    let y ← Fb ρ
    let x ← rdM x
    let y ← rdM y
    optM (f x y)) :=
  pt_mono (pt_cmpR ho ha hb hm) fun σ H Q ⟨mu, g, ρ, S, R, h⟩ => ⟨mu, g, ρ, S, R, (Wp.bd h).mono fun mu1 g1 H1 d1 e1 S1 h1 v1 r1 => ⟨mu1, g1, ρ, S1, R.ext e1, (Wp.bd h1).mono fun mu2 g2 H2 d2 e2 S2 h2 v2 r2 =>
    let ⟨z, hz, k⟩ := Wp.optI (Wp.rdI (Wp.rdI h2))
    ⟨mu2, g2, d1, d2, .bl z, S2, r1.ext e2, r2, congrArg (Option.map D.bl) hz, fun mu3 H3 e3 S3 v3 r3 => ⟨z, r3.bl_inv, k mu3 H3 e3 S3⟩⟩⟩⟩
/-- a op b op' c -/
theorem s_cmp2 {op op' : CmpOp} {f f' : D → D → Option Bool} (hm : lastMarks [op, op'] [b, c] = false) (ho : OpR X (compareOp op) (rF2 X.K fun d e => (f d e).map D.bl)) (ho' : OpR X (compareOp op') (rF2 X.K fun d e => (f' d e).map D.bl))
    (ha : PE X a (tE X.K W Fa)) (hb : PE X b (tE X.K W Fb)) (hc : PE X c (tE X.K W Fc)) : PE X (.Compare a [op, op'] [b, c] pos) (tE X.K W fun ρ => do
    let x ← Fa ρ
    let y ← Fb ρ
    let x' ← rdM x
    let y' ← rdM y
    let k ← optM (f x' y')
    if k then do
      let z ← Fc ρ
      let y' ← rdM y
      let z' ← rdM z
      let k ← optM (f' y' z')
      pure (.bl k)
    else pure (.bl false)) :=
  pe_mono (pe_chain ho ho' ha hb hc hm) fun σ H Q ⟨mu, g, ρ, S, R, h⟩ => ⟨mu, g, ρ, S, R, (Wp.bd h).mono fun mu1 g1 H1 d1 e1 S1 h1 v1 r1 => ⟨mu1, g1, ρ, S1, R.ext e1, (Wp.bd h1).mono fun mu2 g2 H2 d2 e2 S2 h2 v2 r2 => by
    obtain ⟨z, hz, k⟩ := Wp.optB (Wp.rdI (Wp.rdI h2))
    refine ⟨mu2, g2, d1, d2, .bl z, S2, r1.ext e2, r2, congrArg (Option.map D.bl) hz, fun mu3 H3 e3 S3 v3 r3 => ⟨z, r3.bl_inv, ?_⟩⟩
    cases z with
    | true =>
      refine ⟨mu3, g2, ρ, S3, ((R.ext e1).ext e2).ext e3, (Wp.bd (Wp.ext e3 k)).mono fun mu4 g4 H4 d4 e4 S4 h4 v4 r4 => ?_⟩
      obtain ⟨z', hz', k'⟩ := Wp.optB (Wp.rdI (Wp.rdI h4))
      exact ⟨mu4, g4, d2, d4, .bl z', S4, (r2.ext e3).ext e4, r4, congrArg (Option.map D.bl) hz', k'⟩
    | false => exact Wp.here S3 (Wp.ext e3 k) _ (.bl _)⟩⟩
theorem st_cmp2 {op op' : CmpOp} {f f' : D → D → Option Bool} (hm : lastMarks [op, op'] [b, c] = false) (ho : OpR X (compareOp op) (rF2 X.K fun d e => (f d e).map D.bl)) (ho' : OpR X (compareOp op') (rF2 X.K fun d e => (f' d e).map D.bl))
    (ha : PE X a (tE X.K W Fa)) (hb : PE X b (tE X.K W Fb)) (hc : PE X c (tE X.K W Fc)) : PT X (.Compare a [op, op'] [b, c] pos) (tT X.K W fun ρ => do
    let x ← Fa ρ
    let y ← Fb ρ
    let x' ← rdM x
    let y' ← rdM y
    let k ← optM (f x' y')
    if k then do
      let z ← Fc ρ
      let y' ← rdM y
      let z' ← rdM z
      optM (f' y' z')
    else pure false) :=
  pt_mono (pt_chain ho ho' ha hb hc hm) fun σ H Q ⟨mu, g, ρ, S, R, h⟩ => ⟨mu, g, ρ, S, R, (Wp.bd h).mono fun mu1 g1 H1 d1 e1 S1 h1 v1 r1 => ⟨mu1, g1, ρ, S1, R.ext e1, (Wp.bd h1).mono fun mu2 g2 H2 d2 e2 S2 h2 v2 r2 => by
    obtain ⟨z, hz, k⟩ := Wp.optB (Wp.rdI (Wp.rdI h2))
    refine ⟨mu2, g2, d1, d2, .bl z, S2, r1.ext e2, r2, congrArg (Option.map D.bl) hz, fun mu3 H3 e3 S3 v3 r3 => ⟨z, r3.bl_inv, ?_⟩⟩
    cases z with
    | true =>
      refine ⟨mu3, g2, ρ, S3, ((R.ext e1).ext e2).ext e3, (Wp.bd (Wp.ext e3 k)).mono fun mu4 g4 H4 d4 e4 S4 h4 v4 r4 => ?_⟩
      obtain ⟨z', hz', k'⟩ := Wp.optI (Wp.rdI (Wp.rdI h4))
      exact ⟨mu4, g4, d2, d4, .bl z', S4, (r2.ext e3).ext e4, r4, congrArg (Option.map D.bl) hz', fun mu5 H5 e5 S5 v5 r5 => ⟨z', r5.bl_inv, k' mu5 H5 e5 S5⟩⟩
    | false => exact ⟨false, rfl, Wp.here S3 (Wp.ext e3 k)⟩⟩⟩
theorem s_isn {j : Nat} {p : Pos} (ha : PE X a (tE X.K W Fa)) : PE X (.Compare a [.Is] [.Constant .none j p] pos) (tE X.K W fun ρ => do
    let x ← Fa ρ
    match x with
    | .non => pure (.bl true)
    | _ => pure (.bl false)) :=
  pe_mono (pe_cmp (pc_isN ha)) fun σ H Q ⟨mu, g, ρ, S, R, h⟩ => ⟨mu, g, ρ, S, R, (Wp.bd h).mono fun mu1 g1 H1 d1 e1 S1 h1 v1 r1 => by
    have hi := r1.non_iff
    dsimp only
    by_cases hd : d1 = .non
    · subst hd
      rw [decide_eq_true (hi.mpr rfl)]
      exact Wp.here S1 h1 _ (.bl _)
    · rw [decide_eq_false (fun z => hd (hi.mp z))]
      cases d1 <;> first | exact absurd rfl hd | exact Wp.here S1 h1 _ (.bl _)⟩
theorem s_notn {j : Nat} {p : Pos} (ha : PE X a (tE X.K W Fa)) : PE X (.Compare a [.IsNot] [.Constant .none j p] pos) (tE X.K W fun ρ => do
    let x ← Fa ρ
    match x with
    | .non => pure (.bl false)
    | _ => pure (.bl true)) :=
  pe_mono (pe_cmp (pc_notN ha)) fun σ H Q ⟨mu, g, ρ, S, R, h⟩ => ⟨mu, g, ρ, S, R, (Wp.bd h).mono fun mu1 g1 H1 d1 e1 S1 h1 v1 r1 => by
    have hi := r1.non_iff
    dsimp only
    by_cases hd : d1 = .non
    · subst hd
      rw [decide_eq_true (hi.mpr rfl)]
      exact Wp.here S1 h1 _ (.bl _)
    · rw [decide_eq_false (fun z => hd (hi.mp z))]
      cases d1 <;> first | exact absurd rfl hd | exact Wp.here S1 h1 _ (.bl _)⟩
theorem st_isn {j : Nat} {p : Pos} (ha : PE X a (tE X.K W Fa)) : PT X (.Compare a [.Is] [.Constant .none j p] pos) (tT X.K W fun ρ => do
    let x ← Fa ρ
    match x with
    | .non => pure true
    | _ => pure false) :=
  pt_mono (pt_cmp (pc_isN ha)) fun σ H Q ⟨mu, g, ρ, S, R, h⟩ => ⟨mu, g, ρ, S, R, (Wp.bd h).mono fun mu1 g1 H1 d1 e1 S1 h1 v1 r1 => by
    have hi := r1.non_iff
    refine ⟨_, rfl, ?_⟩
    by_cases hd : d1 = .non
    · subst hd
      rw [decide_eq_true (hi.mpr rfl)]
      exact Wp.here S1 h1
    · rw [decide_eq_false (fun z => hd (hi.mp z))]
      cases d1 <;> first | exact absurd rfl hd | exact Wp.here S1 h1⟩
theorem st_notn {j : Nat} {p : Pos} (ha : PE X a (tE X.K W Fa)) : PT X (.Compare a [.IsNot] [.Constant .none j p] pos) (tT X.K W fun ρ => do
    let x ← Fa ρ
    match x with
    | .non => pure false
    | _ => pure true) :=
  pt_mono (pt_cmp (pc_notN ha)) fun σ H Q ⟨mu, g, ρ, S, R, h⟩ => ⟨mu, g, ρ, S, R, (Wp.bd h).mono fun mu1 g1 H1 d1 e1 S1 h1 v1 r1 => by
    have hi := r1.non_iff
    refine ⟨_, rfl, ?_⟩
    by_cases hd : d1 = .non
    · subst hd
      rw [decide_eq_true (hi.mpr rfl)]
      exact Wp.here S1 h1
    · rw [decide_eq_false (fun z => hd (hi.mp z))]
      cases d1 <;> first | exact absurd rfl hd | exact Wp.here S1 h1⟩
/-- a value's truth as a test -/
theorem st_tru (he : ∀ whole, isTrue a X.env whole = (do let v ← whole; standAt a.pos; holding [v] (truthy v))) (ha : PE X a (tE X.K W Fa)) : PT X a (tT X.K W fun ρ => do
    let x ← Fa ρ
    let x ← rdM x
    optM (truD x)) :=
  pt_mono (pt_truth ha he) fun σ H Q ⟨mu, g, ρ, S, R, h⟩ => ⟨mu, g, ρ, S, R, (Wp.bd h).mono fun mu1 g1 H1 d1 e1 S1 h1 v1 r1 =>
    let ⟨b, hb, k⟩ := Wp.optI (Wp.rdI h1)
    ⟨b, tru_of S1 r1 hb, k mu1 H1 .refl S1⟩⟩
theorem st_not {Ta : Env' → M Bool} (ha : PT X a (tT X.K W Ta)) : PT X (.UnaryOp .Not a pos) (tT X.K W fun ρ => do
    let b ← Ta ρ
    pure (!b)) :=
  pt_mono (pt_not ha) fun σ H Q ⟨mu, g, ρ, S, R, h⟩ => ⟨mu, g, ρ, S, R, (Wp.bd h).mono fun mu1 g1 H1 b e1 S1 h1 => Wp.here S1 h1⟩
theorem s_ite {Tc : Env' → M Bool} (hc : PT X c (tT X.K W Tc)) (ha : PE X a (tE X.K W Fa)) (hb : PE X b (tE X.K W Fb)) : PE X (.IfExp c a b pos) (tE X.K W fun ρ => do
    let k ← Tc ρ
    if k then Fa ρ else Fb ρ) :=
  pe_mono (pe_ifExp hc ha hb) fun σ H Q ⟨mu, g, ρ, S, R, h⟩ => ⟨mu, g, ρ, S, R, (Wp.bd h).mono fun mu1 g1 H1 k e1 S1 h1 => by
    cases k with
    | true => exact ⟨mu1, g1, ρ, S1, R.ext e1, h1⟩
    | false => exact ⟨mu1, g1, ρ, S1, R.ext e1, h1⟩⟩
theorem st_and {Ta Tb : Env' → M Bool} {rest : List Expr} (ha : PT X a (tT X.K W Ta)) (hb : PW X (.BoolOp .And (b :: rest) pos) (tT X.K W Tb)) : PW X (.BoolOp .And (a :: b :: rest) pos) (tT X.K W fun ρ => do
    let k ← Ta ρ
    if k then Tb ρ else pure false) :=
  pw_mono (pw_and ha hb) fun σ H Q ⟨mu, g, ρ, S, R, h⟩ => ⟨mu, g, ρ, S, R, (Wp.bd h).mono fun mu1 g1 H1 k e1 S1 h1 => by
    cases k with
    | true => exact ⟨mu1, g1, ρ, S1, R.ext e1, h1⟩
    | false => exact Wp.here S1 h1⟩
theorem st_or {Ta Tb : Env' → M Bool} {rest : List Expr} (ha : PT X a (tT X.K W Ta)) (hb : PW X (.BoolOp .Or (b :: rest) pos) (tT X.K W Tb)) : PW X (.BoolOp .Or (a :: b :: rest) pos) (tT X.K W fun ρ => do
    let k ← Ta ρ
    if k then pure true else Tb ρ) :=
  pw_mono (pw_or ha hb) fun σ H Q ⟨mu, g, ρ, S, R, h⟩ => ⟨mu, g, ρ, S, R, (Wp.bd h).mono fun mu1 g1 H1 k e1 S1 h1 => by
    cases k with
    | true => exact Wp.here S1 h1
    | false => exact ⟨mu1, g1, ρ, S1, R.ext e1, h1⟩⟩
theorem s_and {rest : List Expr} (ha : PE X a (tE X.K W Fa)) (hb : PE X (.BoolOp .And (b :: rest) pos) (tE X.K W Fb)) : PE X (.BoolOp .And (a :: b :: rest) pos) (tE X.K W fun ρ => do
    let x ← Fa ρ
    let y ← rdM x
    let k ← optM (truD y)
    if k then Fb ρ else pure x) :=
  pe_mono (pe_andT ha hb) fun σ H Q ⟨mu, g, ρ, S, R, h⟩ => ⟨mu, g, ρ, S, R, (Wp.bd h).mono fun mu1 g1 H1 d1 e1 S1 h1 v1 r1 => by
    obtain ⟨k, hk, h2⟩ := Wp.optB (Wp.rdI h1)
    refine ⟨k, tru_of S1 r1 hk, ?_⟩
    cases k with
    | true => exact ⟨mu1, g1, ρ, S1, R.ext e1, h2⟩
    | false => exact Wp.here S1 h2 _ r1⟩
theorem s_or {rest : List Expr} (ha : PE X a (tE X.K W Fa)) (hb : PE X (.BoolOp .Or (b :: rest) pos) (tE X.K W Fb)) : PE X (.BoolOp .Or (a :: b :: rest) pos) (tE X.K W fun ρ => do
    let x ← Fa ρ
    let y ← rdM x
    let k ← optM (truD y)
    if k then pure x else Fb ρ) :=
  pe_mono (pe_orT ha hb) fun σ H Q ⟨mu, g, ρ, S, R, h⟩ => ⟨mu, g, ρ, S, R, (Wp.bd h).mono fun mu1 g1 H1 d1 e1 S1 h1 v1 r1 => by
    obtain ⟨k, hk, h2⟩ := Wp.optB (Wp.rdI h1)
    refine ⟨k, tru_of S1 r1 hk, ?_⟩
    cases k with
    | true => exact Wp.here S1 h2 _ r1
    | false => exact ⟨mu1, g1, ρ, S1, R.ext e1, h2⟩⟩

/-! argument lists, displays -/
theorem sa_nil : PA X [] (tA X.K W fun _ => pure []) := pa_mono pa_nil fun σ H Q ⟨mu, g, ρ, S, R, h⟩ => Wp.here S h _ .nil
theorem sa_cons {es : List Expr} {Fs : Env' → M (List D)} (hs : starEach (a :: es) X.env = (false, eval a X.env) :: starEach es X.env) (ha : PE X a (tE X.K W Fa)) (hr : PA X es (tA X.K W Fs)) : PA X (a :: es) (tA X.K W fun ρ => do
    let x ← Fa ρ
    let xs ← Fs ρ
    pure (x :: xs)) :=
  pa_mono (pa_cons ha hr hs) fun σ H Q ⟨mu, g, ρ, S, R, h⟩ => ⟨mu, g, ρ, S, R, (Wp.bd h).mono fun mu1 g1 H1 d1 e1 S1 h1 v1 r1 => ⟨mu1, g1, ρ, S1, R.ext e1, (Wp.bd h1).mono fun mu2 g2 H2 d2 e2 S2 h2 v2 r2 =>
    Wp.here S2 h2 _ (.cons (r1.ext e2) r2)⟩⟩
theorem s_tup {es : List Expr} {Fs : Env' → M (List D)} {j : Nat} (h : PA X es (tA X.K W Fs)) : PE X (.Tuple es j pos) (tE X.K W fun ρ => do
    let ds ← Fs ρ
    needM (ds.length ≤ sizeLine)
    pure (.tup ds)) :=
  pe_mono (pe_tup h) fun σ H Q ⟨mu, g, ρ, S, R, h⟩ => ⟨mu, g, ρ, S, R, (Wp.bd h).mono fun mu1 g1 H1 ds e1 S1 h1 vs rs =>
    let ⟨hl, k⟩ := Wp.needI h1
    ⟨by rw [rs.length]; exact hl, Kt.newTup S1 rs k⟩⟩
theorem s_lst {es : List Expr} {Fs : Env' → M (List D)} {fz : Bool} (h : PA X es (tA X.K W Fs)) : PE X (.List es pos) (tE X.K W fun ρ => do
    let ds ← Fs ρ
    needM (ds.length ≤ sizeLine)
    mkL fz ds) :=
  pe_mono (pe_lst h) fun σ H Q ⟨mu, g, ρ, S, R, h⟩ => ⟨mu, g, ρ, S, R, (Wp.bd h).mono fun mu1 g1 H1 ds e1 S1 h1 vs rs =>
    let ⟨hl, k⟩ := Wp.needI h1
    ⟨by rw [rs.length]; exact hl, Kt.mkLst S1 rs k⟩⟩
end
end DL

set_option Elab.async false
set_option linter.all false
set_option maxRecDepth 100000
set_option maxHeartbeats 4000000
/-! the deep layer: subscripts, built-in functions -/
namespace DL
open PySem PySem.Spec PyProof.Rows L2

/-! ### subscripts -/
section
variable {X : Cx}
theorem ix_dk (hu : X.A.units + 1 < cLine) : IxR X (fun x y H Q => ∃ a v, x = .ref a ∧ DGet H a y (some v) ∧ Q v H) := by
  intro value slice pins s σ H x y v u Q I rx ry h hs
  obtain ⟨a, z, rfl, g, q⟩ := h
  cases rx
  exact tail_any (dict_typeIs I g) PySem.F.slot_dict_getitem.lookup (d_getItem hu I g ry fun w' s3 I3 rw' => ⟨z, H, I3, rw', q⟩) hs
theorem atI_map {α β : Type} (f : α → β) (xs : List α) (i : Int) : atI (xs.map f) i = (atI xs i).map f := by
  unfold atI
  rw [List.length_map]
  cases ixN xs.length i with
  | none => rfl
  | some j => simp
theorem RVs.atI {K : PySem.W.Frag} {own : Addr → Prop} {mu : List Addr} {H : Hp} {ds : List D} {vs : List V} {i : Int} {d : D} (r : RVs K own mu H vs ds) (h : atI ds i = some d) : ∃ v, atI vs i = some v ∧ RV K own mu H v d := by
  unfold L2.atI at h ⊢
  rw [r.length]
  cases e : ixN ds.length i with
  | none => rw [e] at h; cases h
  | some j =>
    rw [e] at h
    obtain ⟨v, h1, h2⟩ := r.get (i := j) h
    exact ⟨v, h1, h2⟩
theorem rd_fn {g : G} {d : D} {n : Str} (e : rd g d = .fn n) : d = .fn n := by
  cases d with
  | ref m =>
    exfalso
    simp only [rd] at e
    cases hg : g[m]? with
    | none => rw [hg] at e; cases e
    | some o => rw [hg] at e; cases o <;> cases e
  | _ => exact e
/-- what is asked of the module's dicts -/
def KdOk (X : Cx) (kd : Str → Str → Option D) : Prop := ∀ n z d, kd n z = some d → ∃ v, KDct X.K X.w (He.ga X.K n) z v ∧ ∀ own mu H, RV X.K own mu H v d
theorem ix_ok {kd : Str → Str → Option D} (hu : X.A.units + 1 < cLine) (hk : KdOk X kd) : IxR X (rF2 X.K (ixD kd)) := by
  intro value slice pins s σ H x y v u Q I rx ry ⟨mu, g, d, e, z, S, hx, hy, h, k⟩ hs
  unfold ixD at h
  split at h
  · rename_i xs i e1 e2
    obtain ⟨a, vs, rfl, q1, r1⟩ := rd_tup hx e1
    have e3 := rd_int hy e2
    obtain ⟨w, h1, h2⟩ := r1.atI h
    exact ix_tup value slice pins s σ H _ _ v u Q I rx ry ⟨a, vs, i, w, rfl, e3, q1, h1, k.flat S h2⟩ hs
  · rename_i xs i e1 e2
    obtain ⟨a, vs, rfl, q1, r1⟩ := rd_lst S hx e1
    have e3 := rd_int hy e2
    obtain ⟨w, h1, h2⟩ := r1.atI h
    exact ix_list value slice pins s σ H _ _ v u Q I rx ry ⟨a, vs, i, w, rfl, e3, q1, h1, k.flat S h2⟩ hs
  · rename_i xx i e1 e2
    split at h
    · rename_i hl
      obtain ⟨c, hc, rfl⟩ := Option.map_eq_some_iff.mp h
      exact ix_str value slice pins s σ H _ _ v u Q I rx ry ⟨xx, i, c, rd_str hx e1, rd_int hy e2, hl, hc, k.flat S (.str _)⟩ hs
    · cases h
  · rename_i ks ws i e1 e2
    obtain ⟨a, kvs, rfl, q1, r1, r2⟩ := rd_dct S hx e1
    have e3 := rd_int hy e2
    subst e3
    rcases dlook_ok (k := .inl i) r1 r2 with ⟨d1, v1, h1, h2, h3⟩ | ⟨h1, h2⟩
    · rw [h] at h1
      cases h1
      exact ix_dk hu value slice pins s σ H _ _ v u Q I rx ry ⟨a, v1, rfl, .inl ⟨kvs, .inl i, q1, rfl, h2.symm⟩, k.flat S h3⟩ hs
    · rw [h] at h1; cases h1
  · rename_i ks ws i e1 e2
    obtain ⟨a, kvs, rfl, q1, r1, r2⟩ := rd_dct S hx e1
    have e3 := rd_str hy e2
    subst e3
    rcases dlook_ok (k := .inr i) r1 r2 with ⟨d1, v1, h1, h2, h3⟩ | ⟨h1, h2⟩
    · rw [h] at h1
      cases h1
      exact ix_dk hu value slice pins s σ H _ _ v u Q I rx ry ⟨a, v1, rfl, .inl ⟨kvs, .inr i, q1, rfl, h2.symm⟩, k.flat S h3⟩ hs
    · rw [h] at h1; cases h1
  · rename_i n t e1 e2
    have e3 := rd_fn e1
    subst e3
    have e4 := rd_str hy e2
    subst e4
    cases hx
    obtain ⟨w, h1, h2⟩ := hk _ _ _ h
    exact ix_kdict value slice pins s σ H _ _ v u Q I rx ry ⟨_, t, w, rfl, rfl, h1, k.flat S (h2 _ _ _)⟩ hs
  · cases h

/-! ### slices -/
def rSl2 (K : PySem.W.Frag) : V → Option Int → Option Int → Hp → VK → Prop := fun x lo hi H Q => ∃ mu g d z, Sim K mu g H ∧ RV K (Own mu g) mu H x d ∧ slD (rd g d) lo hi = some z ∧ Kt K mu g H g z Q
theorem RVs.cut {K : PySem.W.Frag} {own : Addr → Prop} {mu : List Addr} {H : Hp} {ds : List D} {vs : List V} (r : RVs K own mu H vs ds) (lo hi : Option Int) : RVs K own mu H (cutV vs lo hi) (cutL ds lo hi) := by
  unfold cutV cutL
  rw [r.length]
  exact (r.drop _).take _
theorem cutL_whole {ds : List D} {lo hi : Option Int} (h : HT.sIx ds.length 0 lo = 0 ∧ HT.sIx ds.length ds.length hi = ds.length) : cutL ds lo hi = ds := by
  unfold cutL
  rw [h.1, h.2]
  simp
theorem sl_ok : SlR X (rSl2 X.K) := by
  intro pins s σ H x v vl vu lo hi sl Q I rx hs pl pu ⟨mu, g, d, z, S, hx, h, k⟩
  unfold slD at h
  split at h
  · rename_i xs lo' hi' e1
    cases h
    obtain ⟨a, vs, rfl, q1, r1⟩ := rd_tup hx e1
    refine sl_tupA pins s σ H _ v vl vu _ _ sl Q I rx hs pl pu ⟨a, vs, rfl, q1, fun hw => ?_, fun hw => Kt.newTup S (r1.cut _ _) k⟩
    rw [r1.length] at hw
    rw [cutL_whole hw] at k
    have e2 := rd_tup_eq e1
    subst e2
    exact k.flat S hx
  · rename_i xs lo' hi' e1
    cases h
    obtain ⟨a, vs, rfl, q1, r1⟩ := rd_lst S hx e1
    exact sl_list pins s σ H _ v vl vu _ _ sl Q I rx hs pl pu ⟨a, vs, rfl, q1, Kt.newLst S (r1.cut _ _) k⟩
  · rename_i xx lo' hi' e1
    split at h
    · rename_i hl
      cases h
      exact sl_str pins s σ H _ v vl vu _ _ sl Q I rx hs pl pu ⟨_, rd_str hx e1, hl, k.flat S (.str _)⟩
    · cases h
  · cases h
end
def tP (K : PySem.W.Frag) (W : WX) (F : Env' → M (Option Int)) : TO := fun σ H Q => ∃ mu g ρ, Sim K mu g H ∧ RE K (Own mu g) mu H σ ρ ∧
  Wp K (fun c d H => W c d σ H) mu g H (F ρ g) fun mu' g' H' b => Q b H'
section
variable {X : Cx} {W : WX} {a b c e : Expr} {Fa Fb Fc : FE} {pos : Pos}
theorem s_ix {kd : Str → Str → Option D} (hu : X.A.units + 1 < cLine) (hk : KdOk X kd) (hs : PlainIx b) (ha : PE X a (tE X.K W Fa)) (hb : PE X b (tE X.K W Fb)) : PE X (.Subscript a b pos) (tE X.K W fun ρ => do
    let x ← Fa ρ
    let y ← Fb ρ
    let x ← rdM x
    let y ← rdM y
    optM (ixD kd x y)) :=
  pe_mono (pe_ix (ix_ok hu hk) ha hb hs) fun σ H Q ⟨mu, g, ρ, S, R, h⟩ => ⟨mu, g, ρ, S, R, (Wp.bd h).mono fun mu1 g1 H1 d1 e1 S1 h1 v1 r1 => ⟨mu1, g1, ρ, S1, R.ext e1, (Wp.bd h1).mono fun mu2 g2 H2 d2 e2 S2 h2 v2 r2 =>
    let ⟨z, hz, k⟩ := Wp.optI (Wp.rdI (Wp.rdI h2))
    ⟨mu2, g2, d1, d2, z, S2, r1.ext e2, r2, hz, k⟩⟩⟩
theorem po_mono {e : Option Expr} {t t' : TO} (h : PO X e t) (m : ∀ σ H Q, t' σ H Q → t σ H Q) : PO X e t' := ⟨fun pins s σ H Q I q => h.run pins s σ H Q I (m σ H Q q)⟩
theorem sp_none : PO X none (tP X.K W fun _ => pure none) := po_mono po_none fun σ H Q ⟨mu, g, ρ, S, R, h⟩ => Wp.here S h
theorem sp_some (ha : PE X a (tE X.K W Fa)) : PO X (some a) (tP X.K W fun ρ => do
    let x ← Fa ρ
    match x with
    | .int i => pure (some i)
    | _ => M.bad) :=
  po_mono (po_some ha) fun σ H Q ⟨mu, g, ρ, S, R, h⟩ => ⟨mu, g, ρ, S, R, (Wp.bd h).mono fun mu1 g1 H1 d1 e1 S1 h1 v1 r1 => by
    cases d1 with
    | int i => exact ⟨i, r1.int_inv, Wp.here S1 h1⟩
    | _ => exact h1.elim⟩
theorem s_sl {lo hi : Option Expr} {Fl Fh : Env' → M (Option Int)} {p2 : Pos} (ha : PE X a (tE X.K W Fa)) (hl : PO X lo (tP X.K W Fl)) (hh : PO X hi (tP X.K W Fh)) : PE X (.Subscript a (.Slice lo hi none p2) pos) (tE X.K W fun ρ => do
    let x ← Fa ρ
    let l ← Fl ρ
    let h ← Fh ρ
    let x ← rdM x
    optM (slD x l h)) :=
  pe_mono (pe_slice sl_ok ha hl hh) fun σ H Q ⟨mu, g, ρ, S, R, h⟩ => ⟨mu, g, ρ, S, R, (Wp.bd h).mono fun mu1 g1 H1 d1 e1 S1 h1 v1 r1 => ⟨mu1, g1, ρ, S1, R.ext e1, (Wp.bd h1).mono fun mu2 g2 H2 l e2 S2 h2 => ⟨mu2, g2, ρ, S2, (R.ext e1).ext e2, (Wp.bd h2).mono fun mu3 g3 H3 u e3 S3 h3 =>
    let ⟨z, hz, k⟩ := Wp.optI (Wp.rdI h3)
    ⟨mu3, g3, d1, z, S3, (r1.ext e2).ext e3, hz, k⟩⟩⟩⟩
end

/-! ### built-in functions -/
def rM (K : PySem.W.Frag) (m : List D → M D) : List V → Hp → VK → Prop := fun xs H Q => ∃ Xk mu g ds, Sim K mu g H ∧ RVs K (Own mu g) mu H xs ds ∧ Wp K Xk mu g H (m ds g) fun mu' g' H' d => ∀ v, RV K (Own mu' g') mu' H' v d → Q v H'
section
variable {X : Cx}
theorem RVs.one {K : PySem.W.Frag} {own : Addr → Prop} {mu : List Addr} {H : Hp} {vs : List V} {d : D} (h : RVs K own mu H vs [d]) : ∃ v, vs = [v] ∧ RV K own mu H v d := by
  cases h with
  | cons h t => cases t; exact ⟨_, rfl, h⟩
theorem RVs.two {K : PySem.W.Frag} {own : Addr → Prop} {mu : List Addr} {H : Hp} {vs : List V} {d e : D} (h : RVs K own mu H vs [d, e]) : ∃ v w, vs = [v, w] ∧ RV K own mu H v d ∧ RV K own mu H w e := by
  cases h with
  | cons h t => cases t with
    | cons h2 t => cases t; exact ⟨_, _, rfl, h, h2⟩
theorem RVs.nil_inv {K : PySem.W.Frag} {own : Addr → Prop} {mu : List Addr} {H : Hp} {vs : List V} (h : RVs K own mu H vs []) : vs = [] := by cases h; rfl
theorem bi_len : CallR X (.builtin "len") (rM X.K lenM) := by
  intro pins s σ H xs us Q I r ⟨Xk, mu, g, ds, S, rs, h⟩
  unfold lenM at h
  split at h
  · obtain ⟨v, rfl, rv⟩ := rs.one
    try dsimp only at h
    split at h
    · rename_i e1
      obtain ⟨a, vs, rfl, q1, r1⟩ := rd_tup rv e1
      exact call_len_seq pins s σ H _ us Q I r ⟨a, vs, rfl, .inr q1, by rw [r1.length]; exact Wp.here S h _ (.int _)⟩
    · rename_i e1
      obtain ⟨a, vs, rfl, q1, r1⟩ := rd_lst S rv e1
      exact call_len_seq pins s σ H _ us Q I r ⟨a, vs, rfl, .inl q1, by rw [r1.length]; exact Wp.here S h _ (.int _)⟩
    · rename_i x e1
      split at h
      · cases rd_str rv e1
        exact call_len pins s σ H _ us Q I r ⟨.str x, x.length, rfl, ⟨by assumption, rfl⟩, Wp.here S h _ (.int _)⟩
      · exact h.elim
    · rename_i ks vs e1
      obtain ⟨a, kvs, rfl, q1, r1, r2⟩ := rd_dct S rv e1
      obtain ⟨u, rfl, ru⟩ := vals1 r
      cases ru
      refine d_len I q1 fun t s' I' => ⟨.int kvs.length, H, I', ⟨t, rfl⟩, ?_⟩
      have e2 : kvs.length = ks.length := by rw [← r1.length, List.length_map]
      rw [e2]
      exact Wp.here S h _ (.int _)
    · exact h.elim
  · exact h.elim
theorem bi_tuple : CallR X (.type "tuple") (rM X.K tupleM) := by
  intro pins s σ H xs us Q I r ⟨Xk, mu, g, ds, S, rs, h⟩
  unfold tupleM at h
  split at h
  · obtain ⟨v, rfl, rv⟩ := rs.one
    try dsimp only at h
    split at h
    · rename_i e1
      have e2 := rd_tup_eq e1
      subst e2
      obtain ⟨a, vs, rfl, q1, r1⟩ := rd_tup rv e1
      exact call_tuple_of pins s σ H _ us Q I r ⟨a, vs, rfl, .inr ⟨q1, Wp.here S h _ rv⟩⟩
    · rename_i e1
      obtain ⟨a, vs, rfl, q1, r1⟩ := rd_lst S rv e1
      exact call_tuple_of pins s σ H _ us Q I r ⟨a, vs, rfl, .inl ⟨q1, Kt.newTup S r1 h⟩⟩
    · exact h.elim
  · exact h.elim
theorem call_list_dR (hc : X.calm = true) : CallR X (.type "list") (fun xs H Q => ∃ p kvs, xs = [.ref p] ∧ Rd H p (.dK kvs) ∧ ∀ q, H q = none → Q (.ref q) (upd H q (.lst (kvs.map fun kv => kV kv.1)))) := by
  intro pins s σ H xs us Q I r h
  obtain ⟨p, kvs, e, hk, q⟩ := h
  subst e
  obtain ⟨u, eu, rx⟩ := vals1 r
  subst eu
  obtain rfl : u = Value.ref p := rx
  obtain ⟨z, lo, vs, rk, hd⟩ := dk_rd I.hok hk
  obtain ⟨ep, hat⟩ := hd.dictAt
  have hl : kvs.length = vs.length := Paired.length rk
  refine PySem.W.kdl_call (PySem.W.kdl_dict (knd := mixKind X.prog X.w) (kvs := vs) (ep := ep) lo) (I.ok.hd hc) hat (by rw [← hl]; exact z) fun h' tk acc' c' hkeep hS hacc => ?_
  refine ⟨.ref s.heap.objs.size, upd H s.heap.objs.size (.lst (kvs.map fun kv => kV kv.1)), I.laid hkeep (Nat.le_refl _) (show ObjOk X.prog X.w _ _ _ (.lst (kvs.map fun kv => kV kv.1)) from ⟨?_, acc'.toList, c', ?_, ?_⟩), rfl, q _ (I.hok.fresh (Nat.le_refl _))⟩
  · rw [List.length_map]; exact z
  · have el : acc'.toList.length = acc'.size := by simp
    refine vals_of_at (by rw [List.length_map, el, hacc.1, hl]) fun j x w h1 h2 => ?_
    obtain ⟨k, y, hky, hi⟩ := hacc.2 j w (by rw [← Array.getElem?_toList]; exact h2)
    have e1 : (kvs.map (·.1))[j]? = some k := by
      rw [KV.keys rk, List.getElem?_map, hky] <;> rfl
    have e2 : (kvs.map fun kv => kV kv.1)[j]? = some (kV k) := by
      have e3 : (kvs.map fun kv => kV kv.1) = (kvs.map (·.1)).map kV := by rw [List.map_map] <;> rfl
      rw [e3, List.getElem?_map, e1] <;> rfl
    rw [e2] at h1
    cases h1
    exact keyIs_rel hi
  · rw [Array.toArray_toList]; exact hS
theorem bi_list {fz : Bool} (hc : X.calm = true) : CallR X (.type "list") (rM X.K (listM fz)) := by
  intro pins s σ H xs us Q I r ⟨Xk, mu, g, ds, S, rs, h⟩
  unfold listM at h
  split at h
  · obtain ⟨v, rfl, rv⟩ := rs.one
    try dsimp only at h
    split at h
    · rename_i e1
      obtain ⟨a, vs, rfl, q1, r1⟩ := rd_tup rv e1
      exact call_list_of pins s σ H _ us Q I r ⟨a, vs, rfl, .inr q1, Kt.mkLst S r1 h⟩
    · rename_i e1
      obtain ⟨a, vs, rfl, q1, r1⟩ := rd_lst S rv e1
      exact call_list_of pins s σ H _ us Q I r ⟨a, vs, rfl, .inl q1, Kt.mkLst S r1 h⟩
    · rename_i e1
      obtain ⟨a, kvs, rfl, q1, r1, r2⟩ := rd_dct S rv e1
      exact call_list_dR hc pins s σ H _ us Q I r ⟨a, kvs, rfl, q1, Kt.mkLst S r1 h⟩
    · exact h.elim
  · exact h.elim
theorem bi_min2 (hc : X.calm = true) : CallR X (.builtin "min") (rM X.K min2M) := by
  intro pins s σ H xs us Q I r ⟨Xk, mu, g, ds, S, rs, h⟩
  unfold min2M at h
  split at h
  · obtain ⟨v, w, rfl, r1, r2⟩ := rs.two
    exact call_min2 hc pins s σ H _ us Q I r ⟨_, _, by rw [r1.int_inv, r2.int_inv], Wp.here S h _ (.int _)⟩
  · exact h.elim
theorem bi_max2 (hc : X.calm = true) : CallR X (.builtin "max") (rM X.K max2M) := by
  intro pins s σ H xs us Q I r ⟨Xk, mu, g, ds, S, rs, h⟩
  unfold max2M at h
  split at h
  · obtain ⟨v, w, rfl, r1, r2⟩ := rs.two
    exact call_max2 hc pins s σ H _ us Q I r ⟨_, _, by rw [r1.int_inv, r2.int_inv], Wp.here S h _ (.int _)⟩
  · exact h.elim
theorem bi_abs : CallR X (.builtin "abs") (rM X.K absM) := by
  intro pins s σ H xs us Q I r ⟨Xk, mu, g, ds, S, rs, h⟩
  unfold absM at h
  split at h
  · obtain ⟨v, rfl, r1⟩ := rs.one
    exact call_abs pins s σ H _ us Q I r ⟨_, by rw [r1.int_inv], Wp.here S h _ (.int _)⟩
  · exact h.elim
theorem bi_strI : CallR X (.type "str") (rM X.K strIM) := by
  intro pins s σ H xs us Q I r ⟨Xk, mu, g, ds, S, rs, h⟩
  unfold strIM at h
  split at h
  · obtain ⟨v, rfl, r1⟩ := rs.one
    split at h
    · exact call_str_int pins s σ H _ us Q I r ⟨_, by rw [r1.int_inv], by assumption, Wp.here S h _ (.str _)⟩
    · exact h.elim
  · exact h.elim
theorem bi_bools {id : String} {f : List Bool → Bool} (hf : CallR X (.builtin id) (fun vs H Q => ∃ (a : Addr) (bs : List Bool), vs = [V.ref a] ∧ SqL X.K H a (bs.map V.bl) ∧ Q (.bl (f bs)) H)) : CallR X (.builtin id) (rM X.K (ofBools fun bs => .bl (f bs))) := by
  intro pins s σ H xs us Q I r ⟨Xk, mu, g, ds, S, rs, h⟩
  unfold ofBools at h
  split at h
  · obtain ⟨v, rfl, rv⟩ := rs.one
    try dsimp only at h
    split at h
    · rename_i e1
      obtain ⟨a, vs, rfl, q1, r1⟩ := rd_lst S rv e1
      split at h
      · rename_i e2
        rw [r1.bools e2] at q1
        exact hf pins s σ H _ us Q I r ⟨a, _, rfl, q1, Wp.here S h _ (.bl _)⟩
      · exact h.elim
    · exact h.elim
  · exact h.elim
theorem bi_sum (hc : X.calm = true) : CallR X (.builtin "sum") (rM X.K (ofInts fun ns => pure (.int ns.sum))) := by
  intro pins s σ H xs us Q I r ⟨Xk, mu, g, ds, S, rs, h⟩
  unfold ofInts at h
  split at h
  · obtain ⟨v, rfl, rv⟩ := rs.one
    try dsimp only at h
    split at h
    · rename_i e1
      obtain ⟨a, vs, rfl, q1, r1⟩ := rd_lst S rv e1
      split at h
      · rename_i e2
        rw [r1.ints e2] at q1
        exact cr_sum hc pins s σ H _ us Q I r ⟨a, _, rfl, q1, Wp.here S h _ (.int _)⟩
      · exact h.elim
    · exact h.elim
  · exact h.elim
theorem insI_perm (i : Int) : ∀ ns : List Int, (insI i ns).Perm (i :: ns)
  | [] => .refl _
  | j :: r => by
    unfold insI
    split
    · exact .refl _
    · exact ((insI_perm i r).cons j).trans (.swap ..)
theorem sortI_perm : ∀ ns : List Int, (sortI ns).Perm ns
  | [] => .refl _
  | i :: r => (insI_perm i _).trans ((sortI_perm r).cons i)
theorem insI_sorted (i : Int) : ∀ {ns : List Int}, ns.Pairwise (· ≤ ·) → (insI i ns).Pairwise (· ≤ ·)
  | [], _ => by simp [insI]
  | j :: r, h => by
    unfold insI
    split
    · rename_i hij
      refine List.Pairwise.cons (fun x hx => ?_) h
      rcases List.mem_cons.mp hx with e | hx
      · subst e; exact hij
      · exact Int.le_trans hij ((List.pairwise_cons.mp h).1 x hx)
    · rename_i hij
      refine List.Pairwise.cons (fun x hx => ?_) (insI_sorted i (List.pairwise_cons.mp h).2)
      rcases List.mem_cons.mp ((insI_perm i r).mem_iff.mp hx) with e | hx
      · subst e; omega
      · exact (List.pairwise_cons.mp h).1 x hx
theorem sortI_sorted : ∀ ns : List Int, (sortI ns).Pairwise (· ≤ ·)
  | [] => .nil
  | i :: r => insI_sorted i (sortI_sorted r)
theorem sorted_eq : ∀ {xs ys : List Int}, xs.Perm ys → xs.Pairwise (· ≤ ·) → ys.Pairwise (· ≤ ·) → xs = ys
  | [], ys, p, _, _ => (List.Perm.nil_eq p)
  | x :: xs, [], p, _, _ => absurd p.length_eq (by simp)
  | x :: xs, y :: ys, p, hx, hy => by
    have h1 := List.pairwise_cons.mp hx
    have h2 := List.pairwise_cons.mp hy
    have e : x = y := by
      have a1 : x ∈ y :: ys := p.mem_iff.mp (List.mem_cons_self ..)
      have a2 : y ∈ x :: xs := p.mem_iff.mpr (List.mem_cons_self ..)
      have b1 : y ≤ x := by
        rcases List.mem_cons.mp a1 with e | q
        · omega
        · exact h2.1 x q
      have b2 : x ≤ y := by
        rcases List.mem_cons.mp a2 with e | q
        · omega
        · exact h1.1 y q
      omega
    subst e
    rw [sorted_eq ((List.perm_cons x).mp p) h1.2 h2.2]
theorem RVs.ofInts {K : PySem.W.Frag} {own : Addr → Prop} {mu : List Addr} {H : Hp} : ∀ ns : List Int, RVs K own mu H (ns.map V.int) (ns.map D.int)
  | [] => .nil
  | _ :: r => .cons (.int _) (RVs.ofInts r)
theorem bi_sortI {fz : Bool} : CallR X (.builtin "sorted") (rM X.K (DL.ofInts (sortM fz))) := by
  intro pins s σ H xs us Q I r ⟨Xk, mu, g, ds, S, rs, h⟩
  unfold DL.ofInts at h
  split at h
  · obtain ⟨v, rfl, rv⟩ := rs.one
    try dsimp only at h
    split at h
    · rename_i e1
      obtain ⟨a, vs, rfl, q1, r1⟩ := rd_lst S rv e1
      split at h
      · rename_i ns e2
        rw [r1.ints e2] at q1
        unfold sortM at h
        split at h
        · rename_i h64
          refine cr_sorted pins s σ H _ us Q I r ⟨a, ns, rfl, q1, h64, fun ns' p hp hs hn => ?_⟩
          have e3 : ns' = sortI ns := sorted_eq (hp.trans (sortI_perm ns).symm) hs (sortI_sorted ns)
          subst e3
          exact Kt.mkLst S (RVs.ofInts _) h p hn
        · exact h.elim
      · exact h.elim
    · exact h.elim
  · exact h.elim
end
end DL

set_option Elab.async false
set_option linter.all false
set_option maxRecDepth 100000
set_option maxHeartbeats 4000000
/-! the deep layer: calls of built-in functions and methods, attributes, displays of dicts -/
namespace DL
open PySem PySem.Spec PyProof.Rows L2

section
variable {X : Cx} {W : WX} {a b c e o : Expr} {es : List Expr} {Fa Fb Fc Fo : FE} {Fs : Env' → M (List D)} {pos p : Pos} {x : Str} {id T : String} {m : List D → M D}
theorem wp_none {α : Type} {K : PySem.W.Frag} {Xk : XK} {mu : List Addr} {g : G} {H : Hp} {r : R α} {Q : List Addr → G → Hp → α → Prop} (h : Wp K Xk mu g H r Q) : ∃ Xk, Wp K Xk mu g H r Q := ⟨Xk, h⟩
theorem s_biB (hc : CallR X (.builtin id) (rM X.K m)) (hg : Gl X x) (hm : X.mg x = none) (hv : bootBuiltins x = some (.builtin id)) (ha : PA X (e :: es) (tA X.K W Fs)) (hn : x ≠ "__name__") (hdb : (x == ("__debug__" : Str)) = false)
    (he : starEach (e :: es) X.env = (false, eval e X.env) :: starEach es X.env) (hpl : (backTo pos (starEach es X.env)).any (·.1) = false) : PE X (.Call (.Name x p) (e :: es) [] pos) (tE X.K W fun ρ => do
    let ds ← Fs ρ
    m ds) :=
  pe_mono (pe_callB hc hg hm hv ha hn hdb he hpl) fun σ H Q ⟨mu, g, ρ, S, R, h⟩ => ⟨mu, g, ρ, S, R, (Wp.bd h).mono fun mu1 g1 H1 ds e1 S1 h1 vs rs => ⟨_, mu1, g1, ds, S1, rs, h1⟩⟩
theorem s_biT (hc : CallR X (.type T) (rM X.K m)) (hg : Gl X x) (hm : X.mg x = none) (hv : bootBuiltins x = some (.type T)) (ha : PA X (e :: es) (tA X.K W Fs)) (hn : x ≠ "__name__") (hdb : (x == ("__debug__" : Str)) = false)
    (he : starEach (e :: es) X.env = (false, eval e X.env) :: starEach es X.env) (hpl : (backTo pos (starEach es X.env)).any (·.1) = false) : PE X (.Call (.Name x p) (e :: es) [] pos) (tE X.K W fun ρ => do
    let ds ← Fs ρ
    m ds) :=
  pe_mono (pe_callTy hc hg hm hv ha hn hdb he hpl) fun σ H Q ⟨mu, g, ρ, S, R, h⟩ => ⟨mu, g, ρ, S, R, (Wp.bd h).mono fun mu1 g1 H1 ds e1 S1 h1 vs rs => ⟨_, mu1, g1, ds, S1, rs, h1⟩⟩

/-! ### isinstance -/
def tyN : D → Option String
  | .non => some "NoneType" | .bl _ => some "bool" | .int _ => some "int" | .str _ => some "str" | .tup _ => some "tuple" | .lst _ => some "list" | .dct _ _ => some "dict" | _ => none
theorem ty_of {K : PySem.W.Frag} {mu : List Addr} {g : G} {H : Hp} {v : V} {d : D} {n : String} (S : Sim K mu g H) (h : RV K (Own mu g) mu H v d) (e : tyN (rd g d) = some n) : TyX K H v (.type n) := by
  unfold tyN at e
  split at e
  · rename_i e1; cases e; rw [rd_non h e1]; exact .base .non
  · rename_i e1; cases e; rw [rd_bl h e1]; exact .base (.bl _)
  · rename_i e1; cases e; rw [rd_int h e1]; exact .base (.int _)
  · rename_i e1; cases e; rw [rd_str h e1]; exact .base (.str _)
  · rename_i e1; cases e; obtain ⟨a, vs, rfl, q, r⟩ := rd_tup h e1
    rcases q with (q | ⟨o, q⟩) | ⟨o, its, n, q1, q2, _⟩
    · exact .base (.tup q)
    · exact .fTuple q
    · exact .kTuple q1 q2
  · rename_i e1; cases e; obtain ⟨a, vs, rfl, q, r⟩ := rd_lst S h e1
    rcases q with (q | ⟨o, q⟩) | ⟨o, its, n, q1, q2, _⟩
    · exact .base (.lst q)
    · exact .base (.frz q)
    · exact .kList q1 q2
  · rename_i e1; cases e; obtain ⟨a, kvs, rfl, q, r⟩ := rd_dct S h e1
    rcases q with q | ⟨o, q⟩
    · exact .base (.dK q)
    · exact .fDict q
  · cases e
/-- the class as a value -/
def tyS : Ty → String
  | .bool => "bool" | .int => "int" | .str => "str" | .tuple => "tuple" | .list => "list" | .dict => "dict"
theorem isi_kit {d : D} {t : Ty} {b : Bool} (h : isiB d t = some b) : ∃ n, tyN d = some n ∧ kitB n (tyS t) = some b := by
  cases d <;> cases t <;> simp only [isiB] at h <;> cases h <;> refine ⟨_, rfl, ?_⟩ <;> decide +kernel
theorem isiAny_kit {K : PySem.W.Frag} {d : D} : ∀ {ts : List Ty} {b : Bool}, isiAny d ts = some b → ts ≠ [] → ∃ n, tyN d = some n ∧ PySem.W.kitAny K (.type n) (ts.map fun t => Value.type (tyS t)) = some b
  | [], _, h, q => absurd rfl q
  | t :: ts, b, h, _ => by
    unfold isiAny at h
    split at h
    · rename_i e
      cases h
      obtain ⟨n, h1, h3⟩ := isi_kit e
      exact ⟨n, h1, kitAny_cons (kit_ty h3) (fun z => nomatch z) fun _ => rfl⟩
    · rename_i e
      obtain ⟨n, h1, h3⟩ := isi_kit e
      by_cases hn : ts = []
      · subst hn
        cases h
        exact ⟨n, h1, kitAny_cons (kit_ty h3) (fun _ => kitAny_nil) fun z => nomatch z⟩
      · obtain ⟨n', k1, k3⟩ := isiAny_kit (K := K) h hn
        rw [h1] at k1
        cases k1
        exact ⟨n, h1, kitAny_cons (kit_ty h3) (fun _ => k3) fun z => nomatch z⟩
    · cases h
/-- isinstance(a, T) -/
theorem s_isi1 {t : Ty} {te : Expr} (hg : Gl X "isinstance") (hm : X.mg "isinstance" = none) (ha : PE X a (tE X.K W Fa)) (ht : PE X te (tC (.ty (tyS t))))
    (h1 : starEach [a, te] X.env = (false, eval a X.env) :: starEach [te] X.env) (h2 : starEach [te] X.env = (false, eval te X.env) :: starEach [] X.env) : PE X (.Call (.Name "isinstance" p) [a, te] [] pos) (tE X.K W fun ρ => do
    let x ← Fa ρ
    let x ← rdM x
    let b ← optM (isiAny x [t])
    pure (.bl b)) :=
  pe_mono (pe_callB call_isi hg hm (by decide +kernel) (pa_cons ha (pa_cons ht pa_nil h2) h1) (by decide) (by decide) h1 (by rw [h2]; rfl)) fun σ H Q ⟨mu, g, ρ, S, R, h⟩ => ⟨mu, g, ρ, S, R, (Wp.bd h).mono fun mu1 g1 H1 d1 e1 S1 h1 v1 r1 => by
    obtain ⟨b, hb, k⟩ := Wp.optB (Wp.rdI h1)
    have hb' : isiB (rd g1 d1) t = some b := by
      unfold isiAny at hb
      split at hb
      · rename_i e; cases hb; exact e
      · rename_i e; cases hb; exact e
      · cases hb
    obtain ⟨n, k1, k2⟩ := isi_kit hb'
    exact ⟨v1, .ty (tyS t), .type n, .type (tyS t), b, rfl, .ty _, ty_of S1 r1 k1, kit_ty k2, Wp.here S1 k _ (.bl _)⟩⟩
theorem paired_tys : ∀ ts : List Ty, Paired ClsV (ts.map fun t => V.ty (tyS t)) (ts.map fun t => Value.type (tyS t))
  | [] => .nil
  | t :: ts => .cons (.ty _) (paired_tys ts)
theorem TyX.new {K : PySem.W.Frag} {mu : List Addr} {g : G} {H : Hp} {v : V} {d : D} {n : String} {q : Addr} {o : HO} (hq : H q = none) (S : Sim K mu g H) (r : RV K (Own mu g) mu H v d) (e : tyN (rd g d) = some n) : TyX K (upd H q o) v (.type n) :=
  ty_of (S.new hq) (r.ext (Ext.new hq)) e
/-- isinstance(a, (T, ..)) -/
theorem s_isiT {ts : List Ty} {tes : List Expr} {j : Nat} {tp : Pos} (hne : ts ≠ []) (hlen : ts.length ≤ sizeLine) (hg : Gl X "isinstance") (hm : X.mg "isinstance" = none) (ha : PE X a (tE X.K W Fa))
    (ht : PA X tes (fun σ H Q => Q (ts.map fun t => V.ty (tyS t)) H))
    (h1 : starEach [a, .Tuple tes j tp] X.env = (false, eval a X.env) :: starEach [.Tuple tes j tp] X.env) (h2 : starEach [.Tuple tes j tp] X.env = (false, eval (.Tuple tes j tp) X.env) :: starEach [] X.env) : PE X (.Call (.Name "isinstance" p) [a, .Tuple tes j tp] [] pos) (tE X.K W fun ρ => do
    let x ← Fa ρ
    let x ← rdM x
    let b ← optM (isiAny x ts)
    pure (.bl b)) :=
  pe_mono (pe_callB call_isiT hg hm (by decide +kernel) (pa_cons ha (pa_cons (pe_tup ht) pa_nil h2) h1) (by decide) (by decide) h1 (by rw [h2]; rfl)) fun σ H Q ⟨mu, g, ρ, S, R, h⟩ => ⟨mu, g, ρ, S, R, (Wp.bd h).mono fun mu1 g1 H1 d1 e1 S1 h1 v1 r1 => by
    refine ⟨by rw [List.length_map]; exact hlen, fun q hq => ?_⟩
    obtain ⟨b, hb, k⟩ := Wp.optB (Wp.rdI h1)
    obtain ⟨n, k1, k2⟩ := isiAny_kit (K := X.K) hb hne
    exact ⟨v1, q, ts.map fun t => V.ty (tyS t), .type n, ts.map fun t => Value.type (tyS t), b, rfl, upd_same, paired_tys ts, TyX.new hq S1 r1 k1, k2, Wp.here (S1.new hq) (Wp.ext (Ext.new hq) k) _ (.bl _)⟩⟩

/-! ### attributes -/
theorem flook_ok {K : PySem.W.Frag} {own : Addr → Prop} {mu : List Addr} {H : Hp} {f : Str} {d : D} : ∀ {fs : List (Str × V)} {ds : List D}, RVs K own mu H (fs.map (·.2)) ds → flook (fs.map (·.1)) ds f = some d → ∃ v, fs.lookup f = some v ∧ RV K own mu H v d
  | [], _, _, h => by simp [flook] at h
  | (n, v) :: fs, ds, r, h => by
    cases r with
    | @cons _ _ d0 ds r t =>
      simp only [List.map_cons, flook] at h
      by_cases e : n = f
      · subst e
        rw [if_pos rfl] at h
        cases h
        exact ⟨v, by simp [List.lookup_cons], r⟩
      · rw [if_neg e] at h
        obtain ⟨w, h1, h2⟩ := flook_ok t h
        refine ⟨w, ?_, h2⟩
        rw [List.lookup_cons, show (f == n) = false from beq_false_of_ne (Ne.symm e)]
        exact h1
def FldOk (X : Cx) (fld : Str → Str → Bool) : Prop := ∀ C f, fld C f = true → Cls X.K (He.ga X.K C) ∧ NoAttr X.K (He.ga X.K C) f
theorem s_fld {fld : Str → Str → Bool} {f : Str} (hf : FldOk X fld) (ha : PE X a (tE X.K W Fa)) (hb : attributeBase a f X.env (eval a X.env) = eval a X.env) : PE X (.Attribute a f pos) (tE X.K W fun ρ => do
    let x ← Fa ρ
    fldM fld x f) :=
  pe_mono (pe_fld ha hb) fun σ H Q ⟨mu, g, ρ, S, R, h⟩ => ⟨mu, g, ρ, S, R, (Wp.bd h).mono fun mu1 g1 H1 d1 e1 S1 h1 v1 r1 => by
    unfold fldM at h1
    split at h1
    · rename_i C ns vs e
      obtain ⟨a, dx, fs, rfl, q, rfl, r⟩ := rd_obj S1 r1 e
      split at h1
      · rename_i ef
        split at h1
        · rename_i d ed
          obtain ⟨w, w1, w2⟩ := flook_ok r ed
          exact ⟨a, _, dx, fs, w, rfl, q, (hf C f ef).1, (hf C f ef).2, w1, Wp.here S1 h1 _ w2⟩
        · exact h1.elim
      · exact h1.elim
    · exact h1.elim⟩
end

/-! ### methods of built-in types -/
def rMt (K : PySem.W.Frag) (m : D → List D → M D) : V → List V → Hp → VK → Prop := fun x xs H Q => ∃ Xk mu g d ds, Sim K mu g H ∧ RV K (Own mu g) mu H x d ∧ RVs K (Own mu g) mu H xs ds ∧ Wp K Xk mu g H (m d ds g) fun mu' g' H' d => ∀ v, RV K (Own mu' g') mu' H' v d → Q v H'
/-- the value is of the type T -/
def tyW (K : PySem.W.Frag) (T : String) (x : V) (H : Hp) : Prop := tyV K T x H ∨ (T = "dict" ∧ ∃ a, x = .ref a ∧ IsD H a)
section
variable {X : Cx} {W : WX} {a b c e o : Expr} {es : List Expr} {Fa Fb Fc Fo : FE} {Fs : Env' → M (List D)} {pos p apos cpos : Pos} {name : Str} {id T : String} {to : TE} {t : TA} {r : V → List V → Hp → VK → Prop}
theorem tyW_is {pins : List (Addr × Obj)} {σ : L2.St} {H : Hp} {s : Shared} {x : V} {v : Value} (I : Inv X pins σ H s) (r : RelV x v) (ty : tyW X.K T x H) :
    s.TypeIs v T ∧ ∀ a, v = .ref a → ∃ ob, s.heap.get? a = some ob ∧ ob.dict = none := by
  rcases ty with ty | ⟨rfl, a, rfl, d⟩
  · exact tyV_is I r ty
  · cases r
    obtain ⟨t1, t2, _⟩ := isD_at I d
    exact ⟨t1, t2⟩
def tBW0 (K : PySem.W.Frag) (T : String) (r : V → List V → Hp → VK → Prop) (to : TE) : TE := fun σ H Q => to σ H fun x H1 => tyW K T x H1 ∧ r x [] H1 Q
def tBW (K : PySem.W.Frag) (T : String) (r : V → List V → Hp → VK → Prop) (to : TE) (t : TA) : TE := fun σ H Q => to σ H fun x H1 => tyW K T x H1 ∧ t σ H1 fun xs H2 => r x xs H2 Q
theorem pe_bw0 (pa : PlainAttrs T) (slot : Slot T name id) (hty : typeOf (.builtin id) = pure (.type "method_descriptor")) (hm : MtR X id r) (ho : PE X o to)
    (hbase : attributeBase o name X.env (eval o X.env) = eval o X.env) (hline : (apos.endLine == cpos.line) = true) : PE X (.Call (.Attribute o name apos) [] [] cpos) (tBW0 X.K T r to) := by
  refine ⟨fun pins s σ H Q I h => ?_⟩
  refine wpAny_Call_method0_late hbase hline (thn (ho.run pins s σ H _ I h) fun v s1 ⟨x, H1, I1, r1, ty, q1⟩ => ?_)
  obtain ⟨h1, h2⟩ := tyW_is I1 r1 ty
  exact ⟨T, id, pa, slot, hty, h1, h2, Calls.callWith_builtin rfl (PySem.evalArgs_none (hm pins s1 σ H1 x [] v [] Q I1 r1 .nil q1))⟩
theorem pe_bw (pa : PlainAttrs T) (slot : Slot T name id) (hty : typeOf (.builtin id) = pure (.type "method_descriptor")) (hm : MtR X id r) (ho : PE X o to) (ha : PA X (e :: es) t)
    (hbase : attributeBase o name X.env (eval o X.env) = eval o X.env)
    (hfew : ((backTo cpos (starEach (e :: es) X.env)).all (fun x => !x.1) && (backToKw cpos (keywordEach [] X.env)).all (fun x => x.1.isSome)
      && decide ((e :: es).length + ([] : List Keyword).length + (if ([] : List Keyword).isEmpty then 0 else 1) < 30)) = true)
    (hline : (apos.endLine == cpos.line) = true) (hs : starEach (e :: es) X.env = (false, eval e X.env) :: starEach es X.env) (hplain : (backTo cpos (starEach es X.env)).any (·.1) = false) :
    PE X (.Call (.Attribute o name apos) (e :: es) [] cpos) (tBW X.K T r to t) := by
  refine ⟨fun pins s σ H Q I h => ?_⟩
  refine wpAny_Call_method_late hbase hfew hline rfl (thn (ho.run pins s σ H _ I h) fun v s1 ⟨x, H1, I1, r1, ty, q1⟩ => ?_)
  obtain ⟨h1, h2⟩ := tyW_is I1 r1 ty
  refine ⟨T, id, pa, slot, hty, h1, h2, ?_⟩
  have hA := ha.run cpos pins s1 σ H1 _ I1 q1
  rw [hs] at hA ⊢
  refine Calls.callWith_builtin (by show (false || (backTo cpos (starEach es X.env)).any (·.1)) = false; rw [hplain] <;> rfl) (Calls.evalArgs_plain ?_)
  exact thn hA fun us s2 ⟨vs, H2, I2, r2, q2⟩ => hm pins s2 σ H2 x vs v us Q I2 r1 r2 q2
def mtT : Mt → String
  | .append => "list" | .pop => "list" | .get => "dict" | .join => "str"
theorem mtOk_ty {K : PySem.W.Frag} {mu : List Addr} {g : G} {H : Hp} {v : V} {d : D} {m : Mt} (S : Sim K mu g H) (h : RV K (Own mu g) mu H v d) (e : mtOk m (rd g d) = true) : tyW K (mtT m) v H := by
  unfold mtOk at e
  split at e
  · rename_i e1; obtain ⟨a, vs, rfl, q, _⟩ := rd_lst S h e1; exact .inl (.inl ⟨rfl, vs, q⟩)
  · rename_i e1; obtain ⟨a, vs, rfl, q, _⟩ := rd_lst S h e1; exact .inl (.inl ⟨rfl, vs, q⟩)
  · rename_i e1; obtain ⟨a, kvs, rfl, q, _⟩ := rd_dct S h e1; exact .inr ⟨rfl, a, rfl, .inl ⟨kvs, q⟩⟩
  · rename_i e1; rw [rd_str h e1]; exact .inl rfl
  · cases e
/-- what is asked of a method -/
structure MtI (X : Cx) (m : Mt) (name : Str) (id : String) : Prop where
  pa : PlainAttrs (mtT m)
  sl : Slot (mtT m) name id
  ty : typeOf (.builtin id) = pure (.type "method_descriptor")
  mt : MtR X id (rMt X.K (mtM m))
theorem s_mt0 {m : Mt} (i : MtI X m name id) (ho : PE X o (tE X.K W Fo)) (hbase : attributeBase o name X.env (eval o X.env) = eval o X.env) (hline : (apos.endLine == cpos.line) = true) : PE X (.Call (.Attribute o name apos) [] [] cpos) (tE X.K W fun ρ => do
    let x ← Fo ρ
    let x' ← rdM x
    needM (mtOk m x' = true)
    let ds ← (pure [] : M (List D))
    mtM m x ds) :=
  pe_mono (pe_bw0 i.pa i.sl i.ty i.mt ho hbase hline) fun σ H Q ⟨mu, g, ρ, S, R, h⟩ => ⟨mu, g, ρ, S, R, (Wp.bd h).mono fun mu1 g1 H1 d1 e1 S1 h1 v1 r1 => by
    obtain ⟨hc, k⟩ := Wp.needI (Wp.rdI h1)
    exact ⟨mtOk_ty S1 r1 hc, ⟨_, mu1, g1, d1, [], S1, r1, .nil, k⟩⟩⟩
theorem s_mt {m : Mt} (i : MtI X m name id) (ho : PE X o (tE X.K W Fo)) (ha : PA X (e :: es) (tA X.K W Fs)) (hbase : attributeBase o name X.env (eval o X.env) = eval o X.env)
    (hfew : ((backTo cpos (starEach (e :: es) X.env)).all (fun x => !x.1) && (backToKw cpos (keywordEach [] X.env)).all (fun x => x.1.isSome)
      && decide ((e :: es).length + ([] : List Keyword).length + (if ([] : List Keyword).isEmpty then 0 else 1) < 30)) = true)
    (hline : (apos.endLine == cpos.line) = true) (hs : starEach (e :: es) X.env = (false, eval e X.env) :: starEach es X.env) (hplain : (backTo cpos (starEach es X.env)).any (·.1) = false) : PE X (.Call (.Attribute o name apos) (e :: es) [] cpos) (tE X.K W fun ρ => do
    let x ← Fo ρ
    let x' ← rdM x
    needM (mtOk m x' = true)
    let ds ← Fs ρ
    mtM m x ds) :=
  pe_mono (pe_bw i.pa i.sl i.ty i.mt ho ha hbase hfew hline hs hplain) fun σ H Q ⟨mu, g, ρ, S, R, h⟩ => ⟨mu, g, ρ, S, R, (Wp.bd h).mono fun mu1 g1 H1 d1 e1 S1 h1 v1 r1 => by
    obtain ⟨hc, k⟩ := Wp.needI (Wp.rdI h1)
    exact ⟨mtOk_ty S1 r1 hc, ⟨mu1, g1, ρ, S1, R.ext e1, (Wp.bd k).mono fun mu2 g2 H2 ds e2 S2 h2 vs rs => ⟨_, mu2, g2, d1, ds, S2, r1.ext e2, rs, h2⟩⟩⟩⟩
theorem OR.lst_inv {K : PySem.W.Frag} {own : Addr → Prop} {mu : List Addr} {H : Hp} {a : Addr} {ds : List D} (h : OR K own mu H a (.lst ds)) : ∃ vs, H a = some (.lst vs) ∧ RVs K own mu H vs ds := h
theorem OR.setL {K : PySem.W.Frag} {mu : List Addr} {g : G} {H : Hp} {n : Nat} {p : Addr} {x : O} {vs : List V} {ds : List D} (hx : g[n]? = some x) (hl : x.live = true) (hm : mu[n]? = some p) (r : RVs K (Own mu g) mu H vs ds) : OR K (Own mu (g.set n (.lst ds))) mu (upd H p (.lst vs)) p (.lst ds) :=
  ⟨vs, upd_same, r.ext (Ext.set (y := .lst ds) (o := .lst vs) hx hl hm)⟩
/-- a list is changed -/
theorem Sim.setL {K : PySem.W.Frag} {mu : List Addr} {g : G} {H : Hp} {n : Nat} {p : Addr} {x : O} {vs : List V} {ds : List D} (S : Sim K mu g H) (hx : g[n]? = some x) (hl : x.live = true) (hm : mu[n]? = some p) (r : RVs K (Own mu g) mu H vs ds) : Sim K mu (g.set n (.lst ds)) (upd H p (.lst vs)) :=
  S.set hx hl hm (OR.setL hx hl hm r)
theorem RV.ref_inv {K : PySem.W.Frag} {own : Addr → Prop} {mu : List Addr} {H : Hp} {v : V} {n : Nat} (h : RV K own mu H v (.ref n)) : ∃ a, v = .ref a ∧ mu[n]? = some a := by
  cases h with
  | ref h => exact ⟨_, rfl, h⟩
theorem RVs.dropLast {K : PySem.W.Frag} {own : Addr → Prop} {mu : List Addr} {H : Hp} : ∀ {ds : List D} {vs : List V}, RVs K own mu H vs ds → RVs K own mu H vs.dropLast ds.dropLast
  | _, _, .nil => .nil
  | _, _, .cons h .nil => .nil
  | _, _, .cons h (.cons h2 t) => .cons h (RVs.dropLast (.cons h2 t))
theorem RVs.strs {K : PySem.W.Frag} {own : Addr → Prop} {mu : List Addr} {H : Hp} : ∀ {ds : List D} {vs : List V} {ns : List Str}, RVs K own mu H vs ds → strsOf ds = some ns → vs = ns.map V.str
  | [], _, ns, r, h => by cases r; cases h; rfl
  | d :: ds, _, ns, r, h => by
    cases r with
    | cons r t =>
      cases d with
      | str x =>
        simp only [strsOf] at h
        obtain ⟨ys, h1, rfl⟩ := Option.map_eq_some_iff.mp h
        rw [t.strs h1, r.str_inv]; rfl
      | _ => cases h
theorem mi_append : MtI X .append "append" "list.append" := ⟨PySem.F.plainAttrs_list, PySem.F.slot_list_append, PySem.F.type_list_append, by
  intro pins s σ H x xs v us Q I rx rs ⟨Xk, mu, g, d, ds, S, r, r2, h⟩
  simp only [mtM] at h
  unfold appendM at h
  split at h
  · obtain ⟨w, rfl, rw'⟩ := r2.one
    try dsimp only at h
    split at h
    · rename_i y n
      obtain ⟨a, rfl, hm⟩ := r.ref_inv
      split at h
      · rename_i ys hg
        split at h
        · rename_i hz
          obtain ⟨vs, hH, rvs⟩ := S.at_ n _ a hg hm
          have hl := rvs.length
          have rn := rvs.append (RVs.cons rw' .nil)
          exact mt_append pins s σ H _ _ v us Q I rx rs ⟨a, vs, w, rfl, rfl, hH, by omega, h _ _ (Ext.set hg rfl hm) (S.setL hg rfl hm rn) _ .non⟩
        · exact h.elim
      · exact h.elim
    · exact h.elim
  · exact h.elim⟩
theorem mi_pop : MtI X .pop "pop" "list.pop" := ⟨PySem.F.plainAttrs_list, PySem.F.slot_list_pop, PySem.F.type_list_pop, by
  intro pins s σ H x xs v us Q I rx rs ⟨Xk, mu, g, d, ds, S, r, r2, h⟩
  simp only [mtM] at h
  unfold popM at h
  split at h
  · have := r2.nil_inv
    subst this
    try dsimp only at h
    split at h
    · rename_i n
      obtain ⟨a, rfl, hm⟩ := r.ref_inv
      split at h
      · rename_i ys hg
        split at h
        · rename_i y hy
          obtain ⟨vs, hH, rvs⟩ := S.at_ n _ a hg hm
          have hl := rvs.length
          obtain ⟨w, w1, w2⟩ := rvs.get hy
          exact mt_pop pins s σ H _ _ v us Q I rx rs ⟨a, vs, w, rfl, rfl, hH, by rw [hl]; exact w1, h _ _ (Ext.set hg rfl hm) (S.setL hg rfl hm rvs.dropLast) _ (w2.ext (Ext.set hg rfl hm))⟩
        · exact h.elim
      · exact h.elim
    · exact h.elim
  · exact h.elim⟩
theorem mi_get (hu : X.A.units + 1 < cLine) : MtI X .get "get" "dict.get" := ⟨PySem.F.plainAttrs_dict, PySem.F.slot_dict_get, PySem.F.type_dict_get, by
  intro pins s σ H x xs v us Q I rx rs ⟨Xk, mu, g, d, ds, S, r, r2, h⟩
  simp only [mtM] at h
  unfold getM at h
  split at h
  · obtain ⟨w, rfl, rw'⟩ := r2.one
    try dsimp only at h
    split at h
    · rename_i y ks vs e1
      split at h
      · rename_i k ek
        obtain ⟨a, kvs, rfl, q, q1, q2⟩ := rd_dct S r e1
        cases rx
        obtain ⟨u, rfl, ru⟩ := vals1 rs
        have e3 := kOf_dOf ek
        subst e3
        have e4 := rw'.key
        subst e4
        refine d_get1 hu I (.inl ⟨kvs, k, q, rfl, rfl⟩) ru fun w' s' I' rw2 => ?_
        rcases dlook_ok (k := k) q1 q2 with ⟨d1, v1, h1, h2, h3⟩ | ⟨h1, h2⟩
        · rw [h1] at h; rw [h2] at rw2
          exact ⟨v1, H, I', rw2, Wp.here S h _ h3⟩
        · rw [h1] at h; rw [h2] at rw2
          exact ⟨.non, H, I', rw2, Wp.here S h _ .non⟩
      · exact h.elim
    · exact h.elim
  · obtain ⟨w, w2, rfl, rw', rw2'⟩ := r2.two
    try dsimp only at h
    split at h
    · rename_i ks vs e1
      split at h
      · rename_i k ek
        obtain ⟨a, kvs, rfl, q, q1, q2⟩ := rd_dct S r e1
        cases rx
        obtain ⟨u, u2, rfl, ru, ru2⟩ := vals2 rs
        have e3 := kOf_dOf ek
        subst e3
        have e4 := rw'.key
        subst e4
        refine d_get2 hu I (.inl ⟨kvs, k, q, rfl, rfl⟩) ru ru2 fun w' s' I' rw3 => ?_
        rcases dlook_ok (k := k) q1 q2 with ⟨d1, v1, h1, h2, h3⟩ | ⟨h1, h2⟩
        · rw [h1] at h; rw [h2] at rw3
          exact ⟨v1, H, I', rw3, Wp.here S h _ h3⟩
        · rw [h1] at h; rw [h2] at rw3
          exact ⟨w2, H, I', rw3, Wp.here S h _ rw2'⟩
      · exact h.elim
    · exact h.elim
  · exact h.elim⟩
theorem mi_join : MtI X .join "join" "str.join" := ⟨PySem.F.plainAttrs_str, PySem.F.slot_str_join, PySem.F.type_str_join, by
  intro pins s σ H x xs v us Q I rx rs ⟨Xk, mu, g, d, ds, S, r, r2, h⟩
  simp only [mtM] at h
  unfold joinM at h
  split at h
  · obtain ⟨w, rfl, rw'⟩ := r2.one
    try dsimp only at h
    split at h
    · have e := r.str_inv
      subst e
      split at h
      · rename_i e1
        obtain ⟨p, vs, rfl, q, rvs⟩ := rd_lst S rw' e1
        split at h
        · rename_i e2
          split at h
          · rename_i hz
            rw [rvs.strs e2] at q
            exact mt_join pins s σ H _ _ v us Q I rx rs ⟨_, p, _, rfl, rfl, .inl q, hz, Wp.here S h _ (.str _)⟩
          · exact h.elim
        · exact h.elim
      · exact h.elim
    · exact h.elim
  · exact h.elim⟩
end
/-! ### a written dict of the module, looked up by .get -/
inductive KTs (w : World) : List DictEntry → List (Str × V) → Prop
  | nil : KTs w [] []
  | cons {e : DictEntry} {es : List DictEntry} {x : Str} {v : V} {l : List (Str × V)} : (∃ t, e.key = .str x t) → e.hash = hashStr w x → RelV v e.val → KTs w es l → KTs w (e :: es) ((x, v) :: l)
structure KTab (K : PySem.W.Frag) (w : World) (a : Addr) (l : List (Str × V)) : Prop where
  ex : ∃ (es : Array DictEntry) (n : Nat), List.lookup a K = some { cls := .type "dict", data := .dict es n } ∧ KTs w es.toList l
  nd : (l.map (·.1)).Nodup
  ns : (a == sysModules) = false
theorem KTs.pairs {P : Program} {w : World} : ∀ {es : List DictEntry} {l : List (Str × V)}, KTs w es l → ∃ kvs : List (Key × Value), Pairs (mixKind P w) es kvs ∧ kvs.map (·.1) = l.map (fun p => Sum.inr p.1) ∧ (∀ e ∈ es, ∃ k, (mixKind P w).is k e.key = true ∧ e.hash = (mixKind P w).hash k) ∧ ∀ z : Str, RelO (l.lookup z) (valueAt kvs (.inr z))
  | _, _, .nil => ⟨[], .nil, rfl, (fun _ h => by cases h), fun _ => trivial⟩
  | _, _, .cons (e := e) (x := x) ⟨t, hk⟩ hh hv r => by
    obtain ⟨kvs, h1, h2, h3, h4⟩ := r.pairs (P := P)
    have hi : (mixKind P w).is (.inr x) e.key = true := kV_is (k := .inr x) (by rw [hk]; exact ⟨t, rfl⟩)
    refine ⟨(.inr x, e.val) :: kvs, .cons hi rfl h1, by simp [h2], fun e' he => ?_, fun z => ?_⟩
    · rcases List.mem_cons.mp he with rfl | he
      · exact ⟨.inr x, hi, hh⟩
      · exact h3 e' he
    · unfold valueAt
      rw [List.find?_cons, List.lookup_cons]
      by_cases hz : x = z
      · subst hz
        simp
        exact hv
      · have e1 : (z == x) = false := by simpa using fun q => hz q.symm
        have e2 : decide ((Sum.inr x : Key) = Sum.inr z) = false := by simpa using hz
        rw [e1]
        simp only [e2]
        exact h4 z
theorem KTab.dict {P : Program} {w : World} {K : PySem.W.Frag} {a : Addr} {l : List (Str × V)} (t : KTab K w a l) {h : Heap} (X : K.In h) : ∃ kvs : List (Key × Value), Heap.DictOf (mixKind P w) h a kvs ∧ ∀ z : Str, RelO (l.lookup z) (valueAt kvs (.inr z)) := by
  obtain ⟨es, n, h1, h2⟩ := t.ex
  obtain ⟨kvs, q1, q2, q3, q4⟩ := h2.pairs (P := P)
  refine ⟨kvs, ⟨_, es, n, X a _ h1, ⟨rfl, rfl, rfl⟩, rfl, fun e he => q3 e (by simpa using he), q1, ?_⟩, q4⟩
  have : (kvs.map fun x => x.1) = (l.map (·.1)).map Sum.inr := by rw [q2, List.map_map]; rfl
  rw [this]
  unfold List.Nodup
  rw [List.pairwise_map]
  exact List.Pairwise.imp (fun h e => h (by injection e)) t.nd
def rKt (K : PySem.W.Frag) (w : World) : V → List V → Hp → VK → Prop := fun x xs H Q => ∃ a l z, x = .ref a ∧ xs = [.str z] ∧ KTab K w a l ∧ Q ((l.lookup z).getD .non) H
theorem mt_kt {X : Cx} : MtR X "dict.get" (rKt X.K X.w) := by
  intro pins s σ H x xs v us Q I rx rs ⟨a, l, z, e1, e2, t, q⟩
  subst e1 e2
  cases rx
  obtain ⟨u, rfl, ru⟩ := vals1 rs
  obtain ⟨kvs, dd, hv⟩ := t.dict (P := X.prog) I.kIn
  exact call_meetsIn PySem.F.slot_dict_get dd.typeIs PySem.F.entry_dict_get (PySem.F.args_dict_get_2 (.ref a) u) (meets_dict_get (mixKind X.prog X.w) a (kV_is (k := .inr z) ru) t.ns)
    ⟨valueAt kvs, dd.mapOf, ⟨_, H, I.tok _, (hv z).getD (show RelV .non .none from rfl), q⟩⟩

/-- what is known of written dicts -/
def KtOk (X : Cx) (kt : Str → Option (List (Str × D))) : Prop := ∀ n l, kt n = some l → ∃ lv, KTab X.K X.w (He.ga X.K n) lv ∧ ∀ z, (∃ d v, l.lookup z = some d ∧ lv.lookup z = some v ∧ ∀ own mu H, RV X.K own mu H v d) ∨ (l.lookup z = none ∧ lv.lookup z = none)
def tKt (K : PySem.W.Frag) (w : World) (to : TE) (t : TA) : TE := fun σ H Q => to σ H fun x H1 => (∃ a l, x = .ref a ∧ KTab K w a l) ∧ t σ H1 fun xs H2 => rKt K w x xs H2 Q
section
variable {X : Cx} {W : WX} {e o : Expr} {es : List Expr} {Fo : FE} {Fs : Env' → M (List D)} {apos cpos : Pos} {to : TE} {t : TA} {kt : Str → Option (List (Str × D))}
theorem pe_kt (ho : PE X o to) (ha : PA X (e :: es) t)
    (hbase : attributeBase o "get" X.env (eval o X.env) = eval o X.env)
    (hfew : ((backTo cpos (starEach (e :: es) X.env)).all (fun x => !x.1) && (backToKw cpos (keywordEach [] X.env)).all (fun x => x.1.isSome)
      && decide ((e :: es).length + ([] : List Keyword).length + (if ([] : List Keyword).isEmpty then 0 else 1) < 30)) = true)
    (hline : (apos.endLine == cpos.line) = true) (hs : starEach (e :: es) X.env = (false, eval e X.env) :: starEach es X.env) (hplain : (backTo cpos (starEach es X.env)).any (·.1) = false) :
    PE X (.Call (.Attribute o "get" apos) (e :: es) [] cpos) (tKt X.K X.w to t) := by
  refine ⟨fun pins s σ H Q I h => ?_⟩
  refine wpAny_Call_method_late hbase hfew hline rfl (thn (ho.run pins s σ H _ I h) fun v s1 ⟨x, H1, I1, r1, ⟨a, l, ea, kt⟩, q1⟩ => ?_)
  subst ea
  obtain ⟨kvs, dd, _⟩ := kt.dict (P := X.prog) I1.kIn
  have rv : v = .ref a := by cases r1; rfl
  subst rv
  refine ⟨"dict", "dict.get", PySem.F.plainAttrs_dict, PySem.F.slot_dict_get, PySem.F.type_dict_get, dd.typeIs, fun b hb => ?_, ?_⟩
  · cases hb
    obtain ⟨es', n, h1, _⟩ := kt.ex
    exact ⟨_, I1.kIn _ _ h1, rfl⟩
  have hA := ha.run cpos pins s1 σ H1 _ I1 q1
  rw [hs] at hA ⊢
  refine Calls.callWith_builtin (by show (false || (backTo cpos (starEach es X.env)).any (·.1)) = false; rw [hplain] <;> rfl) (Calls.evalArgs_plain ?_)
  exact thn hA fun us s2 ⟨vs, H2, I2, r2, q2⟩ => mt_kt pins s2 σ H2 (.ref a) vs _ us Q I2 rfl r2 q2
theorem s_kget (hk : KtOk X kt) (ho : PE X o (tE X.K W Fo)) (ha : PA X (e :: es) (tA X.K W Fs))
    (hbase : attributeBase o "get" X.env (eval o X.env) = eval o X.env)
    (hfew : ((backTo cpos (starEach (e :: es) X.env)).all (fun x => !x.1) && (backToKw cpos (keywordEach [] X.env)).all (fun x => x.1.isSome)
      && decide ((e :: es).length + ([] : List Keyword).length + (if ([] : List Keyword).isEmpty then 0 else 1) < 30)) = true)
    (hline : (apos.endLine == cpos.line) = true) (hs : starEach (e :: es) X.env = (false, eval e X.env) :: starEach es X.env) (hplain : (backTo cpos (starEach es X.env)).any (·.1) = false) :
    PE X (.Call (.Attribute o "get" apos) (e :: es) [] cpos) (tE X.K W fun ρ => do
      let x ← Fo ρ
      match x with
      | .fn m => (match kt m with
        | some l => do
          let ds ← Fs ρ
          ktM l ds
        | none => M.bad)
      | _ => M.bad) :=
  pe_mono (pe_kt ho ha hbase hfew hline hs hplain) fun σ H Q ⟨mu, g, ρ, S, R, h⟩ => ⟨mu, g, ρ, S, R, (Wp.bd h).mono fun mu1 g1 H1 d1 e1 S1 h1 v1 r1 => by
    cases d1 with
    | fn m =>
      cases r1
      simp only at h1
      cases e0 : kt m with
      | none => rw [e0] at h1; exact h1.elim
      | some l =>
        rw [e0] at h1
        obtain ⟨lv, T, hz⟩ := hk m l e0
        refine ⟨⟨_, lv, rfl, T⟩, mu1, g1, ρ, S1, R.ext e1, (Wp.bd h1).mono fun mu2 g2 H2 ds e2 S2 h2 vs rs => ?_⟩
        unfold ktM at h2
        split at h2
        · rename_i z
          obtain ⟨w, rfl, rw'⟩ := rs.one
          have := rw'.str_inv
          subst this
          refine ⟨_, lv, z, rfl, rfl, T, ?_⟩
          have q := Wp.here S2 h2
          rcases hz z with ⟨d, v, a1, a2, a3⟩ | ⟨a1, a2⟩
          · rw [a1] at q; rw [a2]; exact q _ (a3 _ _ _)
          · rw [a1] at q; rw [a2]; exact q _ .non
        · exact h2.elim
    | _ => exact h1.elim⟩
end
end DL

set_option Elab.async false
set_option linter.all false
set_option maxRecDepth 100000
set_option maxHeartbeats 4000000
/-! the deep layer: displays of dicts -/
namespace DL
open PySem PySem.Spec PyProof.Rows L2

section
variable {K : PySem.W.Frag} {own : Addr → Prop} {mu : List Addr} {H : Hp}
theorem RV.ofKey (k : Key) : RV K own mu H (kV k) (dOf k) := by
  cases k with
  | inl i => exact .int i
  | inr x => exact .str x
theorem dset_ok {k : Key} {v : V} {d : D} (hv : RV K own mu H v d) : ∀ {kvs : List (Key × V)} {ks vs : List D}, RVs K own mu H (kvs.map fun p => kV p.1) ks → RVs K own mu H (kvs.map (·.2)) vs →
    RVs K own mu H ((kvs.map fun kv => if kv.1 = k then (kv.1, v) else kv).map (·.2)) (dset ks vs k d)
  | [], _, _, r, r' => by cases r; cases r'; exact .nil
  | (k0, v0) :: kvs, _, _, r, r' => by
    cases r with
    | cons h t =>
      cases r' with
      | cons h' t' =>
        have e := h.key'
        subst e
        simp only [List.map_cons, dset, keyOf_dOf, Option.some.injEq]
        by_cases e : k0 = k
        · rw [if_pos e, if_pos e]
          exact .cons hv (dset_ok hv t t')
        · rw [if_neg e, if_neg e]
          exact .cons h' (dset_ok hv t t')
theorem dput_ok {k : Key} {v : V} {d : D} {kvs : List (Key × V)} {ks vs : List D} (hv : RV K own mu H v d) (r : RVs K own mu H (kvs.map fun p => kV p.1) ks) (r' : RVs K own mu H (kvs.map (·.2)) vs) :
    RVs K own mu H ((putK kvs k v).map fun p => kV p.1) (dput ks vs k d).1 ∧ RVs K own mu H ((putK kvs k v).map (·.2)) (dput ks vs k d).2 := by
  have ea := valV_any k kvs
  have e : (dlook ks vs k).isSome = (valV kvs k).isSome := by
    rcases dlook_ok (k := k) r r' with ⟨d1, v1, h1, h2, _⟩ | ⟨h1, h2⟩ <;> rw [h1, h2] <;> rfl
  unfold putK dput
  rw [ea, e]
  by_cases hs : (valV kvs k).isSome = true
  · rw [if_pos hs, if_pos hs]
    refine ⟨?_, dset_ok hv r r'⟩
    have e2 : ((kvs.map fun kv => if kv.1 = k then (kv.1, v) else kv).map fun p => kV p.1) = kvs.map fun p => kV p.1 := by
      rw [List.map_map]
      refine List.map_congr_left fun p _ => ?_
      show kV (if p.1 = k then (p.1, v) else p).1 = kV p.1
      split <;> rfl
    rw [e2]
    exact r
  · rw [if_neg hs, if_neg hs, List.map_append, List.map_append]
    exact ⟨r.append (.cons (RV.ofKey k) .nil), r'.append (.cons hv .nil)⟩
/-- pairs -/
def RVP (K : PySem.W.Frag) (own : Addr → Prop) (mu : List Addr) (H : Hp) (vs : List (V × V)) (ps : List (D × D)) : Prop := RVs K own mu H (vs.map (·.1)) (ps.map (·.1)) ∧ RVs K own mu H (vs.map (·.2)) (ps.map (·.2))
theorem dmerge_ok : ∀ {ps : List (D × D)} {vs : List (V × V)} {kvs0 : List (Key × V)} {ks0 ws0 : List D} {r : List D × List D}, RVP K own mu H vs ps → dmerge ks0 ws0 ps = some r →
    RVs K own mu H (kvs0.map fun p => kV p.1) ks0 → RVs K own mu H (kvs0.map (·.2)) ws0 → ∃ kvs : List (Key × V), vs = kvs.map (fun kv => (kV kv.1, kv.2)) ∧
    RVs K own mu H ((mergeK kvs0 kvs).map fun p => kV p.1) r.1 ∧ RVs K own mu H ((mergeK kvs0 kvs).map (·.2)) r.2
  | [], [], kvs0, ks0, ws0, r, _, h, h1, h2 => by
    cases h
    exact ⟨[], rfl, h1, h2⟩
  | [], v :: vs, _, _, _, _, h, _, _, _ => nomatch h.1
  | p :: ps, [], _, _, _, _, h, _, _, _ => nomatch h.1
  | (dk, dv) :: ps, (vk, vv) :: vs, kvs0, ks0, ws0, r, ⟨hp1, hp2⟩, h, h1, h2 => by
    cases hp1 with
    | cons a1 t1 =>
      cases hp2 with
      | cons a2 t2 =>
        unfold dmerge at h
        split at h
        · rename_i k ek
          have e := kOf_dOf ek
          try simp only at e
          subst e
          have e2 := a1.key
          try simp only at e2
          subst e2
          obtain ⟨q1, q2⟩ := dput_ok (k := k) a2 h1 h2
          obtain ⟨kvs, e3, q3, q4⟩ := dmerge_ok ⟨t1, t2⟩ h q1 q2
          subst e3
          exact ⟨(k, vv) :: kvs, rfl, q3, q4⟩
        · cases h
end
def tQ (K : PySem.W.Frag) (W : WX) (F : Env' → M (List (D × D))) : L2.St → Hp → (List (V × V) → Hp → Prop) → Prop := fun σ H Q => ∃ mu g ρ, Sim K mu g H ∧ RE K (Own mu g) mu H σ ρ ∧
  Wp K (fun c d H => W c d σ H) mu g H (F ρ g) fun mu' g' H' ps => ∀ vs, RVP K (Own mu' g') mu' H' vs ps → Q vs H'
structure PQ (X : Cx) (pos : Pos) (keys : List (Option Expr)) (values : List Expr) (t : L2.St → Hp → (List (V × V) → Hp → Prop) → Prop) : Prop where
  run : ∀ (pins : List (Addr × Obj)) (s : Shared) (σ : L2.St) (H : Hp) (Q : List (V × V) → Hp → Prop), Inv X pins σ H s → t σ H Q →
    wpAny (model X.prog X.w) X.A (evalPairs (pairTrees keys values X.env pos)) (fun vs s' => ∃ ps H', Inv X pins σ H' s' ∧ VV ps vs ∧ Q ps H') X.xe s
section
variable {X : Cx} {W : WX} {pos : Pos} {a k v : Expr} {ks : List (Option Expr)} {vs : List Expr} {Fk Fv : FE} {Fr : Env' → M (List (D × D))}
theorem sq_nil : PQ X pos [] [] (tQ X.K W fun _ => pure []) := ⟨fun pins s σ H Q I ⟨mu, g, ρ, S, R, h⟩ => pairTrees_nil_walk ⟨[], H, I, .nil, Wp.here S h _ ⟨.nil, .nil⟩⟩⟩
theorem sq_cons (hk : PE X k (tE X.K W Fk)) (hv : PE X v (tE X.K W Fv)) (hr : PQ X pos ks vs (tQ X.K W Fr)) : PQ X pos (some k :: ks) (v :: vs) (tQ X.K W fun ρ => do
    let x ← Fk ρ
    let y ← Fv ρ
    let ps ← Fr ρ
    pure ((x, y) :: ps)) := ⟨fun pins s σ H Q I ⟨mu, g, ρ, S, R, h⟩ =>
  pairTrees_cons_walk (thn (hk.run pins s σ H (fun x H1 => tE X.K W Fv σ H1 fun y H2 => tQ X.K W Fr σ H2 fun ps H3 => Q ((x, y) :: ps) H3) I ⟨mu, g, ρ, S, R, (Wp.bd h).mono fun mu1 g1 H1 d1 e1 S1 h1 v1 r1 => ⟨mu1, g1, ρ, S1, R.ext e1, (Wp.bd h1).mono fun mu2 g2 H2 d2 e2 S2 h2 v2 r2 =>
      ⟨mu2, g2, ρ, S2, (R.ext e1).ext e2, (Wp.bd h2).mono fun mu3 g3 H3 ps e3 S3 h3 vs r3 => Wp.here S3 h3 _ ⟨.cons ((r1.ext e2).ext e3) r3.1, .cons (r2.ext e3) r3.2⟩⟩⟩⟩)
    fun u s1 ⟨x, H1, I1, rx, q1⟩ => thn (hv.run pins s1 σ H1 _ I1 q1) fun w2 s2 ⟨y, H2, I2, ry, q2⟩ =>
    thn (hr.run pins s2 σ H2 _ I2 q2) fun ws s3 ⟨ps, H3, I3, rel, q3⟩ => ⟨(x, y) :: ps, H3, I3, .cons ⟨rx, ry⟩ rel, q3⟩)⟩
theorem pe_dispQ {keys : List (Option Expr)} {values : List Expr} {t : L2.St → Hp → (List (V × V) → Hp → Prop) → Prop} (h : PQ X pos keys values t) (hall : keys.all (·.isSome) = true) (hl : keys.length = values.length) (h0 : keys ≠ [])
    (h15 : keys.length ≤ 15) : PE X (.Dict keys values pos) (fun σ H Q => ∀ p, H p = none → t σ (upd H p (.dK [])) fun ps H2 => H2 p = some (.dK []) ∧ ∃ kvs : List (Key × V), ps = kvs.map (fun kv => (kV kv.1, kv.2)) ∧ kvs.length ≤ 15 ∧ Q (.ref p) (upd H2 p (.dK (mergeK [] kvs)))) := by
  refine ⟨fun pins s σ H Q I q => ?_⟩
  have hn := I.hok.fresh (Nat.le_refl s.heap.objs.size)
  have I1 := I.laid (a := s.heap.objs.size) (o := .dK []) (h' := s.heap.push { cls := .type "dict", data := .dict #[] }) (t' := s.toks) (fun _ _ q => Heap.get?_push_of_some _ q) (Nat.le_refl _) (dk_empty s.heap I.big)
  refine wpAny_Dict_walk (knd := mixKind X.prog X.w) hall hl h0 h15 (thn (h.run pins _ σ _ _ I1 (q _ hn)) fun ws s2 ⟨ps, H2, I2, rel, e, kvs, ep, lk, q2⟩ => ?_)
  subst ep
  obtain ⟨rs, c, rk⟩ := carries_of (P := X.prog) (w := X.w) rel
  obtain ⟨z, hd, vs0, r0, dd⟩ := dk_of I2.hok e
  cases r0
  refine ⟨rs, c, dd, fun h' dd' hs => ⟨.ref s.heap.objs.size, _, ?_, rfl, q2⟩⟩
  have hz : (mergeK [] kvs).length ≤ sizeLine := by
    have h1 := length_mergeK kvs []
    rw [List.length_nil] at h1
    rw [sizeLine_eq]; omega
  have he : ∃ q, h'.get? s.heap.objs.size = some q := let ⟨q, _, _, hq, _⟩ := dd'; ⟨q, hq⟩
  exact d_write I2 (by rw [e]; exact True.intro) hs he (dk_new hz hd (rk.merge .nil) dd')
/-- a dict let go behind its making -/
theorem pe_lockD {e : Expr} {te : TE} (he : PE X e te) : PE X e (fun σ H Q => te σ H fun v H1 => ∃ p kvs, v = .ref p ∧ H1 p = some (.dK kvs) ∧ ∀ od, Q v (upd H1 p (.frz od (.dK kvs)))) :=
  ⟨fun pins s σ H Q I h => thn (he.run pins s σ H _ I h) fun u s1 ⟨x, H1, I1, rx, p, kvs, ex, hp, q⟩ => by
    subst ex
    obtain ⟨od, I2⟩ := I1.lock hp True.intro
    exact ⟨.ref p, _, I2, rx, q od⟩⟩
/-- what a display comes to -/
theorem disp_end {K : PySem.W.Frag} {Xk : XK} {mu1 mu2 : List Addr} {g1 g2 : G} {H2 : Hp} {n : Nat} {p : Addr} {ps : List (D × D)} {vs : List (V × V)} {fz : Bool} {Q : VK} (S2 : Sim K mu2 g2 H2) (hm : mu2[n]? = some p) (r : RVP K (Own mu2 g2) mu2 H2 vs ps)
    (h : Wp K Xk mu2 g2 H2 (setDctM n fz ps g2) fun mu' g' H' d => ∀ v, RV K (Own mu' g') mu' H' v d → Q v H') :
    H2 p = some (.dK []) ∧ ∃ kvs : List (Key × V), vs = kvs.map (fun kv => (kV kv.1, kv.2)) ∧ (fz = false → Q (.ref p) (upd H2 p (.dK (mergeK [] kvs)))) ∧ (fz = true → ∀ od, Q (.ref p) (upd H2 p (.frz od (.dK (mergeK [] kvs))))) := by
  unfold setDctM at h
  split at h
  · rename_i hg
    obtain ⟨kvs0, hp, r1, r2⟩ := S2.at_ n _ p hg hm
    have e0 : kvs0 = [] := by
      cases kvs0 with
      | nil => rfl
      | cons a b => cases r1
    subst e0
    split at h
    · rename_i rr hr
      obtain ⟨kvs, e1, q1, q2⟩ := dmerge_ok (kvs0 := []) r hr .nil .nil
      refine ⟨hp, kvs, e1, fun ef => ?_, fun ef od => ?_⟩
      · subst ef
        have E : Ext mu2 g2 H2 mu2 (g2.set n (.dct rr.1 rr.2)) (upd H2 p (.dK (mergeK [] kvs))) := Ext.set hg rfl hm
        have S3 : Sim K mu2 (g2.set n (.dct rr.1 rr.2)) (upd H2 p (.dK (mergeK [] kvs))) := S2.set hg rfl hm ⟨mergeK [] kvs, upd_same, q1.ext E, q2.ext E⟩
        exact h _ _ E S3 _ (.ref hm)
      · subst ef
        have E : Ext mu2 g2 H2 mu2 (g2.set n .gone) (upd H2 p (.frz od (.dK (mergeK [] kvs)))) := Ext.set hg rfl hm
        have S3 : Sim K mu2 (g2.set n .gone) (upd H2 p (.frz od (.dK (mergeK [] kvs)))) := S2.set hg rfl hm ⟨_, upd_same⟩
        exact h _ _ E S3 _ (.dct (nown_gone S2 hm) upd_same (q1.ext E) (q2.ext E))
    · exact h.elim
  · exact h.elim
theorem RVP.length {K : PySem.W.Frag} {own : Addr → Prop} {mu : List Addr} {H : Hp} {vs : List (V × V)} {ps : List (D × D)} (r : RVP K own mu H vs ps) : vs.length = ps.length := by
  have := r.1.length
  rw [List.length_map, List.length_map] at this
  exact this
theorem s_dct {keys : List (Option Expr)} {values : List Expr} {fz : Bool} (h : PQ X pos keys values (tQ X.K W Fr)) (hall : keys.all (·.isSome) = true) (hl : keys.length = values.length) (h0 : keys ≠ []) (h15 : keys.length ≤ 15) : PE X (.Dict keys values pos) (tE X.K W fun ρ => do
    let n ← newDct
    let ps ← Fr ρ
    needM (ps.length ≤ 15)
    setDctM n fz ps) := by
  have key : ∀ (σ : L2.St) (H : Hp) (Q : VK), tE X.K W (fun ρ => do
      let n ← newDct
      let ps ← Fr ρ
      needM (ps.length ≤ 15)
      setDctM n fz ps) σ H Q → ∀ p, H p = none → tQ X.K W Fr σ (upd H p (.dK [])) fun vs H2 => H2 p = some (.dK []) ∧ ∃ kvs : List (Key × V), vs = kvs.map (fun kv => (kV kv.1, kv.2)) ∧ kvs.length ≤ 15 ∧
        (fz = false → Q (.ref p) (upd H2 p (.dK (mergeK [] kvs)))) ∧ (fz = true → ∀ od, Q (.ref p) (upd H2 p (.frz od (.dK (mergeK [] kvs))))) := by
    intro σ H Q ⟨mu, g, ρ, S, R, h⟩ p hp
    have E : Ext mu g H (mu ++ [p]) (g ++ [O.dct [] []]) (upd H p (.dK [])) := Ext.alloc S.len hp
    have S1 : Sim X.K (mu ++ [p]) (g ++ [O.dct [] []]) (upd H p (.dK [])) := S.alloc hp ⟨[], upd_same, .nil, .nil⟩
    have hm : (mu ++ [p])[g.length]? = some p := by rw [← S.len]; simp
    have h' : Wp X.K (fun c d H => W c d σ H) mu g H ((do
      let ps ← Fr ρ
      needM (ps.length ≤ 15)
      setDctM g.length fz ps) (g ++ [O.dct [] []])) (fun mu' g' H' d => ∀ v, RV X.K (Own mu' g') mu' H' v d → Q v H') := h
    refine ⟨mu ++ [p], g ++ [O.dct [] []], ρ, S1, R.ext E, (Wp.bd (Wp.ext E h')).mono fun mu2 g2 H2 ps e2 S2 h2 vs r => ?_⟩
    obtain ⟨hlen, k⟩ := Wp.needI h2
    obtain ⟨q1, kvs, q2, q3⟩ := disp_end (mu1 := mu) (g1 := g) S2 (pre_get e2.pre hm) r k
    refine ⟨q1, kvs, q2, ?_, q3⟩
    have := r.length
    rw [q2, List.length_map] at this
    omega
  cases fz with
  | false => 
    refine pe_mono (pe_dispQ h hall hl h0 h15) fun σ H Q hh p hp => ?_
    obtain ⟨mu, g, ρ, S, R, k⟩ := key σ H Q hh p hp
    exact ⟨mu, g, ρ, S, R, k.mono fun mu' g' H' ps e S' q vs r => let ⟨q1, kvs, q2, q3, q4, _⟩ := q vs r; ⟨q1, kvs, q2, q3, q4 rfl⟩⟩
  | true =>
    refine pe_mono (pe_lockD (pe_dispQ h hall hl h0 h15)) fun σ H Q hh p hp => ?_
    obtain ⟨mu, g, ρ, S, R, k⟩ := key σ H Q hh p hp
    refine ⟨mu, g, ρ, S, R, k.mono fun mu' g' H' ps e S' q vs r => let ⟨q1, kvs, q2, q3, _, q4⟩ := q vs r; ⟨q1, kvs, q2, q3, p, mergeK [] kvs, rfl, upd_same, fun od => ?_⟩⟩
    rw [upd_upd]
    exact q4 rfl od
/-- {} -/
theorem s_dct0 {fz : Bool} : PE X (.Dict [] [] pos) (tE X.K W fun ρ => do
    let n ← newDct
    let ps ← (pure [] : M (List (D × D)))
    needM (ps.length ≤ 15)
    setDctM n fz ps) := by
  have key : ∀ (σ : L2.St) (H : Hp) (Q : VK), tE X.K W (fun ρ => do
      let n ← newDct
      let ps ← (pure [] : M (List (D × D)))
      needM (ps.length ≤ 15)
      setDctM n fz ps) σ H Q → ∀ p, H p = none → (fz = false → Q (.ref p) (upd H p (.dK []))) ∧ (fz = true → ∀ od, Q (.ref p) (upd H p (.frz od (.dK [])))) := by
    intro σ H Q ⟨mu, g, ρ, S, R, h⟩ p hp
    have E : Ext mu g H (mu ++ [p]) (g ++ [O.dct [] []]) (upd H p (.dK [])) := Ext.alloc S.len hp
    have S1 : Sim X.K (mu ++ [p]) (g ++ [O.dct [] []]) (upd H p (.dK [])) := S.alloc hp ⟨[], upd_same, .nil, .nil⟩
    have hm : (mu ++ [p])[g.length]? = some p := by rw [← S.len]; simp
    have h' : Wp X.K (fun c d H => W c d σ H) mu g H (setDctM g.length fz [] (g ++ [O.dct [] []])) (fun mu' g' H' d => ∀ v, RV X.K (Own mu' g') mu' H' v d → Q v H') := h
    obtain ⟨q1, kvs, q2, q3, q4⟩ := disp_end (mu1 := mu) (g1 := g) (vs := []) S1 hm ⟨.nil, .nil⟩ (Wp.ext E h')
    have e0 : kvs = [] := by
      cases kvs with
      | nil => rfl
      | cons a b => cases q2
    subst e0
    have e1 : ∀ o, upd (upd H p (.dK [])) p o = upd H p o := fun o => upd_upd
    simp only [e1] at q3 q4
    exact ⟨q3, q4⟩
  cases fz with
  | false => exact pe_mono pe_dnewK fun σ H Q hh p hp => (key σ H Q hh p hp).1 rfl
  | true =>
    refine pe_mono (pe_lockD pe_dnewK) fun σ H Q hh p hp => ⟨p, [], rfl, upd_same, fun od => ?_⟩
    rw [upd_upd]
    exact (key σ H Q hh p hp).2 rfl od
end
end DL

set_option Elab.async false
set_option linter.all false
set_option maxRecDepth 100000
set_option maxHeartbeats 4000000
/-! the deep layer: targets -/
namespace DL
open PySem PySem.Spec PyProof.Rows L2

section
variable {K : PySem.W.Frag} {Xk Xk' : XK} {mu : List Addr} {g : G} {H : Hp} {α β : Type}
theorem Wp.noEx {m : M α} {Q : List Addr → G → Hp → α → Prop} (h : Wp K Xk mu g H (DL.noEx m g) Q) : Wp K Xk' mu g H (m g) Q := by
  unfold DL.noEx at h
  cases e : m g with
  | ok a g' => rw [e] at h; exact h
  | ex x g' => rw [e] at h; exact h.elim
  | bad => rw [e] at h; exact h.elim
theorem Wp.setI {x i d : D} {Q : List Addr → G → Hp → Unit → Prop} (S : Sim K mu g H) (h : Wp K Xk mu g H (setItemM x i d g) Q) {vx vi vd : V} (rx : RV K (Own mu g) mu H vx x) (ri : RV K (Own mu g) mu H vi i) (rd : RV K (Own mu g) mu H vd d) :
    (rSetL vx vi vd H fun H' => ∃ g', Ext mu g H mu g' H' ∧ Sim K mu g' H' ∧ Q mu g' H' ()) ∨ (rSetD vx vi vd H fun H' => ∃ g', Ext mu g H mu g' H' ∧ Sim K mu g' H' ∧ Q mu g' H' ()) := by
  unfold setItemM at h
  split at h
  · rename_i n
    obtain ⟨p, rfl, hm⟩ := rx.ref_inv
    split at h
    · rename_i xs hg
      split at h
      · rename_i k
        split at h
        · rename_i j hj
          obtain ⟨vs, hH, r⟩ := S.at_ n _ p hg hm
          have rn := r.set rd j
          have E : Ext mu g H mu (g.set n (.lst (xs.set j d))) (upd H p (.lst (vs.set j vd))) := Ext.set hg rfl hm
          have S' := S.setL hg rfl hm rn
          exact .inl ⟨p, vs, k, j, rfl, ri.int_inv, hH, by rw [r.length]; exact hj, _, E, S', h _ _ E S'⟩
        · exact h.elim
      · exact h.elim
    · rename_i ks vs hg
      split at h
      · rename_i k hk
        split at h
        · rename_i hz
          obtain ⟨kvs, hH, r1, r2⟩ := S.at_ n _ p hg hm
          obtain ⟨q1, q2⟩ := dput_ok (k := k) rd r1 r2
          have e := kOf_dOf hk
          subst e
          have e2 := ri.key
          subst e2
          have E : Ext mu g H mu (g.set n (.dct (dput ks vs k d).1 (dput ks vs k d).2)) (upd H p (.dK (putK kvs k vd))) := Ext.set hg rfl hm
          have S' : Sim K mu (g.set n (.dct (dput ks vs k d).1 (dput ks vs k d).2)) (upd H p (.dK (putK kvs k vd))) := S.set hg rfl hm ⟨_, upd_same, q1.ext E, q2.ext E⟩
          have hl : kvs.length = ks.length := by rw [← r1.length, List.length_map]
          exact .inr ⟨p, _, rfl, DPut.k hH (by omega), _, E, S', h _ _ E S'⟩
        · exact h.elim
      · exact h.elim
    · exact h.elim
  · exact h.elim
end
section
variable {K : PySem.W.Frag} {own : Addr → Prop} {mu : List Addr} {H : Hp} {σ : L2.St} {ρ : Env'}
theorem RE.set (R : RE K own mu H σ ρ) {v : V} {d : D} (i : Nat) (r : RV K own mu H v d) : RE K own mu H (σ.set i (some v)) (ρ.set i (some d)) :=
  ⟨by rw [List.length_set, List.length_set]; exact R.len, fun j e h => by
    by_cases hj : i = j
    · subst hj
      have hi : i < ρ.length := by
        have := (List.getElem?_eq_some_iff.mp h).1
        rwa [List.length_set] at this
      rw [List.getElem?_set_self hi] at h
      cases h
      exact ⟨v, List.getElem?_set_self (by rw [R.len]; exact hi), r⟩
    · rw [List.getElem?_set_ne hj] at h
      rw [List.getElem?_set_ne hj]
      exact R.at_ j e h⟩
theorem RE.clear (R : RE K own mu H σ ρ) (i : Nat) : RE K own mu H (σ.set i none) (ρ.set i none) :=
  ⟨by rw [List.length_set, List.length_set]; exact R.len, fun j e h => by
    by_cases hj : i = j
    · subst hj
      have hi : i < ρ.length := by
        have := (List.getElem?_eq_some_iff.mp h).1
        rwa [List.length_set] at this
      rw [List.getElem?_set_self hi] at h
      cases h
    · rw [List.getElem?_set_ne hj] at h
      rw [List.getElem?_set_ne hj]
      exact R.at_ j e h⟩
theorem RE.wipe (R : RE K own mu H σ ρ) : ∀ vs : List Nat, RE K own mu H (L2.wipe σ vs) (wipeE ρ vs)
  | [] => R
  | v :: vs => (R.wipe vs).clear v
end
/-- the same but for the slots vs -/
def Agr (vs : List Nat) (σ σ' : L2.St) : Prop := σ'.length = σ.length ∧ ∀ i, i ∉ vs → σ'[i]? = σ[i]?
theorem Agr.refl {vs : List Nat} {σ : L2.St} : Agr vs σ σ := ⟨rfl, fun _ _ => rfl⟩
theorem Agr.trans {vs ws : List Nat} {σ σ1 σ2 : L2.St} (h : Agr vs σ σ1) (h2 : Agr ws σ1 σ2) : Agr (vs ++ ws) σ σ2 :=
  ⟨h2.1.trans h.1, fun i hi => (h2.2 i fun z => hi (List.mem_append_right _ z)).trans (h.2 i fun z => hi (List.mem_append_left _ z))⟩
theorem Agr.set {i : Nat} {σ : L2.St} {o : Option V} : Agr [i] σ (σ.set i o) := ⟨List.length_set, fun j hj => by rw [List.getElem?_set_ne (fun e => hj (by simp [e]))]⟩
theorem wipe_get {σ : L2.St} {i : Nat} : ∀ {vs : List Nat}, (L2.wipe σ vs)[i]? = if i ∈ vs then (if i < σ.length then some none else none) else σ[i]?
  | [] => by simp [L2.wipe]
  | v :: vs => by
    unfold L2.wipe
    by_cases hv : v = i
    · subst hv
      rw [if_pos (List.mem_cons_self ..), List.getElem?_set_self', wipe_get]
      by_cases hl : v < σ.length
      · by_cases hm : v ∈ vs
        · rw [if_pos hm, if_pos hl]; rfl
        · rw [if_neg hm, if_pos hl, List.getElem?_eq_getElem hl]; rfl
      · by_cases hm : v ∈ vs
        · rw [if_pos hm, if_neg hl]; rfl
        · rw [if_neg hm, if_neg hl, List.getElem?_eq_none (by omega)]; rfl
    · rw [List.getElem?_set_ne hv, wipe_get]
      have : i ∈ v :: vs ↔ i ∈ vs := by
        rw [List.mem_cons]
        exact ⟨fun z => z.elim (fun e => absurd e.symm hv) id, .inr⟩
      simp only [this]
theorem Agr.wipe {vs ws : List Nat} {σ σ' : L2.St} (h : Agr vs (L2.wipe σ ws) σ') (hs : ∀ i ∈ vs, i ∈ ws) : L2.wipe σ' ws = L2.wipe σ ws := by
  have hl : σ'.length = σ.length := by rw [h.1, wipe_length]
  refine List.ext_getElem? fun i => ?_
  rw [wipe_get, wipe_get, hl]
  by_cases hi : i ∈ ws
  · rw [if_pos hi, if_pos hi]
  · rw [if_neg hi, if_neg hi, h.2 i (fun z => hi (hs i z)), wipe_get, if_neg hi]
abbrev FT := D → Env' → M Env'
abbrev FTs := List D → Env' → M Env'
def tG (K : PySem.W.Frag) (vs : List Nat) (F : FT) : TG := fun v σ H Q => ∃ mu g ρ d, Sim K mu g H ∧ RE K (Own mu g) mu H σ ρ ∧ RV K (Own mu g) mu H v d ∧
  Wp K (fun _ _ _ => False) mu g H (F d ρ g) fun mu' g' H' ρ' => ∀ σ', RE K (Own mu' g') mu' H' σ' ρ' → Agr vs σ σ' → Q σ' H'
def tGs (K : PySem.W.Frag) (vs : List Nat) (F : FTs) : TGs := fun xs σ H Q => ∃ mu g ρ ds, Sim K mu g H ∧ RE K (Own mu g) mu H σ ρ ∧ RVs K (Own mu g) mu H xs ds ∧
  Wp K (fun _ _ _ => False) mu g H (F ds ρ g) fun mu' g' H' ρ' => ∀ σ', RE K (Own mu' g') mu' H' σ' ρ' → Agr vs σ σ' → Q σ' H'
section
variable {X : Cx} {W : WX} {a b c e o tg : Expr} {es : List Expr} {Fa Fb Fc Fo : FE} {Ft : FT} {Fts : FTs} {pos p : Pos} {x : Str} {vs ws : List Nat}
theorem pg_mono {t t' : TG} (h : PG X e t) (m : ∀ v σ H Q, t' v σ H Q → t v σ H Q) : PG X e t' := ⟨fun pins s σ H v u Q I r q => h.run pins s σ H v u Q I r (m v σ H Q q)⟩
theorem pgs_mono {t t' : TGs} (h : PGs X es t) (m : ∀ v σ H Q, t' v σ H Q → t v σ H Q) : PGs X es t' := ⟨fun pins s σ H v u Q I r q => h.run pins s σ H v u Q I r (m v σ H Q q)⟩
theorem pg_or {t t' : TG} (h : PG X e t) (h' : PG X e t') : PG X e (fun v σ H Q => t v σ H Q ∨ t' v σ H Q) := ⟨fun pins s σ H v u Q I r q => q.elim (h.run pins s σ H v u Q I r) (h'.run pins s σ H v u Q I r)⟩
theorem sg_name {i : Nat} (hN : X.N.Nodup) (hi : X.N[i]? = some x) (hx : Loc X.env.scope x) (hf : X.fn x = true ∨ X.env.scope.names.lookup x = some .local) : PG X (.Name x pos) (tG X.K [i] fun d ρ => pure (ρ.set i (some d))) :=
  pg_mono (pg_name hN hi hx hf) fun v σ H Q ⟨mu, g, ρ, d, S, R, r, h⟩ => Wp.here S h _ (R.set i r) Agr.set
theorem sgs_nil : PGs X [] (tGs X.K [] fun ds ρ => match ds with
    | [] => pure ρ
    | _ => M.bad) :=
  pgs_mono pgs_nil fun v σ H Q ⟨mu, g, ρ, ds, S, R, r, h⟩ => by
    cases ds with
    | nil => exact ⟨r.nil_inv, Wp.here S h _ R Agr.refl⟩
    | cons d ds => exact h.elim
theorem sgs_cons (h1 : PG X e (tG X.K vs Ft)) (h2 : PGs X es (tGs X.K ws Fts)) (hs : (assignEach (e :: es) X.env).map (·.2) = assign e X.env :: (assignEach es X.env).map (·.2)) : PGs X (e :: es) (tGs X.K (vs ++ ws) fun ds ρ => match ds with
    | d :: ds => do
      let ρ1 ← Ft d ρ
      Fts ds ρ1
    | _ => M.bad) :=
  pgs_mono (pgs_cons h1 h2 hs) fun v σ H Q ⟨mu, g, ρ, ds, S, R, r, h⟩ => by
    cases ds with
    | nil => exact h.elim
    | cons d ds =>
      cases r with
      | cons r rr =>
        exact ⟨_, _, rfl, mu, g, ρ, d, S, R, r, (Wp.bd h).mono fun mu1 g1 H1 ρ1 e1 S1 h1 σ1 R1 A1 => ⟨mu1, g1, ρ1, ds, S1, R1, rr.ext e1, h1.mono fun mu2 g2 H2 ρ2 e2 S2 q σ2 R2 A2 => q σ2 R2 (A1.trans A2)⟩⟩
theorem sg_tup {n k : Nat} (hc : X.calm = true) (h : PGs X es (tGs X.K vs Fts)) (hn : (assignEach es X.env).length = n) (hst : (assignEach es X.env).findIdx? (·.1) = none) : PG X (.Tuple es k pos) (tG X.K vs fun d ρ => do
    let x ← rdM d
    let ds ← optM (itemsD x)
    needM (ds.length = n)
    Fts ds ρ) :=
  pg_mono (pg_or (pg_tup hc h hn hst) (pg_lst hc h hn hst)) fun v σ H Q ⟨mu, g, ρ, d, S, R, r, h⟩ => by
    obtain ⟨ds, hd, k⟩ := Wp.optB (Wp.rdI h)
    obtain ⟨hl, k⟩ := Wp.needI k
    unfold itemsD at hd
    split at hd
    · rename_i e1
      cases hd
      obtain ⟨a, xs, rfl, q, rs⟩ := rd_tup r e1
      exact .inl ⟨a, xs, rfl, q, rs.length.trans hl, mu, g, ρ, _, S, R, rs, k⟩
    · rename_i e1
      cases hd
      obtain ⟨a, xs, rfl, q, rs⟩ := rd_lst S r e1
      exact .inr ⟨a, xs, rfl, q, rs.length.trans hl, mu, g, ρ, _, S, R, rs, k⟩
    · cases hd
theorem pset_or {t t' : TSet} (h : PSet X t) (h' : PSet X t') : PSet X (fun o i v H Q => t o i v H Q ∨ t' o i v H Q) := fun pins s σ H o i v ov iv u Q I ro ri rv q => q.elim (h pins s σ H o i v ov iv u Q I ro ri rv) (h' pins s σ H o i v ov iv u Q I ro ri rv)
theorem sg_ix (hu : X.A.units + 1 < cLine) (ha : PE X a (tE X.K (fun _ _ _ _ => False) Fa)) (hb : PE X b (tE X.K (fun _ _ _ _ => False) Fb)) (has : ∀ v, assign (.Subscript a b pos) X.env v = (do
      let ov ← holding [v] (eval a X.env)
      let iv ← holding [v, ov] (eval b X.env)
      standAt pos
      holding [v, ov, iv] (setItem ov iv v)
      release [v, ov, iv] [])) : PG X (.Subscript a b pos) (tG X.K [] fun d ρ => do
    let x ← Fa ρ
    let y ← Fb ρ
    setItemM x y d
    pure ρ) :=
  pg_mono (pg_sub ha hb (pset_or set_list (set_dict hu)) has) fun v σ H Q ⟨mu, g, ρ, d, S, R, r, h⟩ => ⟨mu, g, ρ, S, R, (Wp.bd h).mono fun mu1 g1 H1 d1 e1 S1 h1 v1 r1 => ⟨mu1, g1, ρ, S1, R.ext e1, (Wp.bd h1).mono fun mu2 g2 H2 d2 e2 S2 h2 v2 r2 => by
    refine (Wp.setI S2 (Wp.bd h2) (r1.ext e2) r2 ((r.ext e1).ext e2)).imp (fun ⟨p, xs, k, j, q1, q2, q3, q4, g3, E, S3, q⟩ => ⟨p, xs, k, j, q1, q2, q3, q4, ?_⟩) (fun ⟨p, H', q1, q2, g3, E, S3, q⟩ => ⟨p, H', q1, q2, ?_⟩)
    · exact Wp.here S3 q _ (((R.ext e1).ext e2).ext E) Agr.refl
    · exact Wp.here S3 q _ (((R.ext e1).ext e2).ext E) Agr.refl⟩⟩
end

/-! ### what is gone through -/
/-- J goes through what it0 says -/
def ItOk (K : PySem.W.Frag) (J : It) (it : It0) (mu : List Addr) (g : G) (H : Hp) : Prop := ∀ mu' g' H', Ext mu g H mu' g' H' → Sim K mu' g' H' → ∀ i,
  (it.at g' i = some none → J.stop i H') ∧
  ∀ d, it.at g' i = some (some d) → J.go i H' ∧ ∀ x H'', J.yld i H' x H'' → Ext mu' g' H' mu' g' H'' ∧ Sim K mu' g' H'' ∧ RV K (Own mu' g') mu' H'' x d
def tIt (K : PySem.W.Frag) (W : WX) (F : Env' → M It0) : TI := fun σ H R' => ∃ mu g ρ, Sim K mu g H ∧ RE K (Own mu g) mu H σ ρ ∧
  Wp K (fun c d H => W c d σ H) mu g H (F ρ g) fun mu' g' H' it => ∀ J, ItOk K J it mu' g' H' → R' J H'
section
variable {X : Cx} {W : WX} {a b c e o tg : Expr} {es : List Expr} {Fa Fb Fc Fo : FE} {Fs : Env' → M (List D)} {pos p apos : Pos} {x : Str}
theorem pi_mono {wi wi' : TI} (h : PI X tg e wi) (m : ∀ σ H R, wi' σ H R → wi σ H R) : PI X tg e wi' := ⟨fun pins s σ H R I q => h.run pins s σ H R I (m σ H R q)⟩
theorem pi_or {wi wi' : TI} (h : PI X tg e wi) (h' : PI X tg e wi') : PI X tg e (fun σ H R => wi σ H R ∨ wi' σ H R) := ⟨fun pins s σ H R I q => q.elim (h.run pins s σ H R I) (h'.run pins s σ H R I)⟩
theorem ext_tup {K : PySem.W.Frag} {mu : List Addr} {g : G} {H : Hp} {T : Addr} {vs : List V} {ds : List D} (S : Sim K mu g H) (hT : H T = none) (r : RVs K (Own mu g) mu H vs ds) :
    Ext mu g H mu g (upd H T (.tup vs)) ∧ Sim K mu g (upd H T (.tup vs)) ∧ RV K (Own mu g) mu (upd H T (.tup vs)) (.ref T) (.tup ds) :=
  ⟨Ext.new hT, S.new hT, .tup (.inl ⟨S.nown_fresh hT, .inl upd_same⟩) (r.ext (Ext.new hT))⟩
variable {K : PySem.W.Frag} {mu : List Addr} {g : G} {H : Hp} {ds : List D} {vs : List V} {q : Addr}
theorem it_dyn {n : Nat} (hm : mu[n]? = some q) : ItOk K (Itl K q) (.dyn n) mu g H := by
  intro mu' g' H' E S i
  have hm' := pre_get E.pre hm
  simp only [It0.at]
  refine ⟨fun h => ?_, fun d h => ?_⟩
  · split at h
    · rename_i ds hg
      obtain ⟨vs, hH, r⟩ := S.at_ n _ q hg hm'
      have hl := r.length
      simp only [Option.some.injEq] at h
      exact ⟨vs, .inl (.inl hH), by rw [hl]; exact List.getElem?_eq_none_iff.mp h⟩
    · cases h
  · split at h
    · rename_i ds hg
      obtain ⟨vs, hH, r⟩ := S.at_ n _ q hg hm'
      simp only [Option.some.injEq] at h
      obtain ⟨v, h1, h2⟩ := r.get h
      refine ⟨⟨vs, v, .inl (.inl hH), h1⟩, fun x H'' ⟨e1, hx⟩ => ?_⟩
      subst e1
      have := hx vs (.inl (.inl hH))
      rw [h1] at this
      cases this
      exact ⟨.refl, S, h2⟩
    · cases h
theorem it_lst (hq : LstAt K (Own mu g) H q vs) (r : RVs K (Own mu g) mu H vs ds) : ItOk K (Itl K q) (.fix ds) mu g H := by
  intro mu' g' H' E S i
  have hq' := hq.mono E.fr E.ow
  have r' := r.ext E
  refine ⟨fun h => ?_, fun d h => ?_⟩
  · simp only [It0.at, Option.some.injEq] at h
    exact ⟨vs, hq'.seq, by rw [r.length]; exact List.getElem?_eq_none_iff.mp h⟩
  · simp only [It0.at, Option.some.injEq] at h
    obtain ⟨v, h1, h2⟩ := r'.get h
    refine ⟨⟨vs, v, hq'.seq, h1⟩, fun x H'' ⟨e1, hx⟩ => ?_⟩
    subst e1
    have := hx vs hq'.seq
    rw [h1] at this
    cases this
    exact ⟨.refl, S, h2⟩
theorem it_tup (hq : TupAt K (Own mu g) H q vs) (r : RVs K (Own mu g) mu H vs ds) : ItOk K (Itt K q) (.fix ds) mu g H := by
  intro mu' g' H' E S i
  have hq' := hq.mono E.fr E.ow
  have r' := r.ext E
  refine ⟨fun h => ?_, fun d h => ?_⟩
  · simp only [It0.at, Option.some.injEq] at h
    exact ⟨vs, hq'.seq, by rw [r.length]; exact List.getElem?_eq_none_iff.mp h⟩
  · simp only [It0.at, Option.some.injEq] at h
    obtain ⟨v, h1, h2⟩ := r'.get h
    refine ⟨⟨vs, v, hq'.seq, h1⟩, fun x H'' ⟨e1, hx⟩ => ?_⟩
    subst e1
    have := hx vs hq'.seq
    rw [h1] at this
    cases this
    exact ⟨.refl, S, h2⟩
theorem it_str {z : Str} : ItOk K (Its z) (.fix (signsD z)) mu g H := by
  intro mu' g' H' E S i
  have hl : (signsD z).length = z.cps.size := by unfold signsD; rw [List.length_map, Array.length_toList]
  refine ⟨fun h => ?_, fun d h => ?_⟩
  · simp only [It0.at, Option.some.injEq] at h
    have := List.getElem?_eq_none_iff.mp h
    show z.cps.size ≤ i
    omega
  · simp only [It0.at, Option.some.injEq] at h
    have h1 : i < z.cps.size := by
      have := (List.getElem?_eq_some_iff.mp h).1
      omega
    refine ⟨h1, fun x H'' ⟨e1, c, hc, e2⟩ => ?_⟩
    subst e1 e2
    unfold signsD at h
    rw [List.getElem?_map, Array.getElem?_toList, hc] at h
    cases h
    exact ⟨.refl, S, .str _⟩
theorem it_rng {lo hi : Int} : ItOk K (Itr lo (hi - lo).toNat) (.fix (rngD lo hi)) mu g H := by
  intro mu' g' H' E S i
  have hl : (rngD lo hi).length = (hi - lo).toNat := by unfold rngD; rw [List.length_map, List.length_range]
  refine ⟨fun h => ?_, fun d h => ?_⟩
  · simp only [It0.at, Option.some.injEq] at h
    have := List.getElem?_eq_none_iff.mp h
    show (hi - lo).toNat ≤ i
    omega
  · simp only [It0.at, Option.some.injEq] at h
    have h1 : i < (hi - lo).toNat := by
      have := (List.getElem?_eq_some_iff.mp h).1
      omega
    refine ⟨h1, fun x H'' ⟨e1, e2⟩ => ?_⟩
    subst e1 e2
    unfold rngD at h
    rw [List.getElem?_map, List.getElem?_range h1] at h
    cases h
    exact ⟨.refl, S, .int _⟩
theorem it_keys {o : Obj} {kvs : List (Key × V)} (hn : ¬ Own mu g q) (hq : H q = some (.frz o (.dK kvs))) (r : RVs K (Own mu g) mu H (kvs.map fun p => kV p.1) ds) : ItOk K (Itk q o kvs) (.fix ds) mu g H := by
  intro mu' g' H' E S i
  have hq' := E.fr _ _ hq hn
  have r' := r.ext E
  have hl : ds.length = kvs.length := by rw [← r.length, List.length_map]
  refine ⟨fun h => ?_, fun d h => ?_⟩
  · simp only [It0.at, Option.some.injEq] at h
    have := List.getElem?_eq_none_iff.mp h
    exact ⟨hq', by omega⟩
  · simp only [It0.at, Option.some.injEq] at h
    obtain ⟨v, h1, h2⟩ := r'.get h
    have hi : i < kvs.length := by
      have := (List.getElem?_eq_some_iff.mp h).1
      omega
    refine ⟨⟨hq', hi⟩, fun x H'' ⟨e1, k, w, hkw, e2⟩ => ?_⟩
    subst e1 e2
    rw [List.getElem?_map, hkw] at h1
    cases h1
    exact ⟨.refl, S, h2⟩
theorem it_vals {o : Obj} {kvs : List (Key × V)} (hn : ¬ Own mu g q) (hq : H q = some (.frz o (.dK kvs))) (r : RVs K (Own mu g) mu H (kvs.map (·.2)) ds) : ItOk K (Itd q o kvs) (.fix ds) mu g H := by
  intro mu' g' H' E S i
  have hq' := E.fr _ _ hq hn
  have r' := r.ext E
  have hl : ds.length = kvs.length := by rw [← r.length, List.length_map]
  refine ⟨fun h => ?_, fun d h => ?_⟩
  · simp only [It0.at, Option.some.injEq] at h
    have := List.getElem?_eq_none_iff.mp h
    exact ⟨hq', by omega⟩
  · simp only [It0.at, Option.some.injEq] at h
    obtain ⟨v, h1, h2⟩ := r'.get h
    have hi : i < kvs.length := by
      have := (List.getElem?_eq_some_iff.mp h).1
      omega
    refine ⟨⟨hq', hi⟩, fun x H'' ⟨e1, k, hkw⟩ => ?_⟩
    subst e1
    rw [List.getElem?_map, hkw] at h1
    cases h1
    exact ⟨.refl, S, h2⟩
theorem zipD_get : ∀ {xs ys : List D} {i : Nat}, (zipD xs ys)[i]? = match xs[i]?, ys[i]? with
    | some x, some y => some (.tup [x, y])
    | _, _ => none
  | [], ys, i => by
    rw [show zipD [] ys = [] from rfl]
    simp
  | x :: xs, [], i => by
    rw [show zipD (x :: xs) [] = [] from rfl]
    cases (x :: xs)[i]? <;> simp
  | x :: xs, y :: ys, 0 => rfl
  | x :: xs, y :: ys, i + 1 => by
    show (zipD xs ys)[i]? = _
    rw [zipD_get]
    rfl
theorem it_items {o : Obj} {kvs : List (Key × V)} {ks ws : List D} (hn : ¬ Own mu g q) (hq : H q = some (.frz o (.dK kvs))) (r : RVs K (Own mu g) mu H (kvs.map fun p => kV p.1) ks) (r2 : RVs K (Own mu g) mu H (kvs.map (·.2)) ws) : ItOk K (Iti q o kvs) (.fix (zipD ks ws)) mu g H := by
  intro mu' g' H' E S i
  have hq' := E.fr _ _ hq hn
  have r' := r.ext E
  have r2' := r2.ext E
  have hl : ks.length = kvs.length := by rw [← r.length, List.length_map]
  have hl2 : ws.length = kvs.length := by rw [← r2.length, List.length_map]
  simp only [It0.at, zipD_get, Option.some.injEq]
  refine ⟨fun h => ?_, fun d h => ?_⟩
  · split at h
    · cases h
    · rename_i hh
      refine ⟨hq', Nat.le_of_not_lt fun hi => ?_⟩
      exact hh ks[i] ws[i] (List.getElem?_eq_getElem (by omega)) (List.getElem?_eq_getElem (by omega))
  · split at h
    · rename_i x y hx hy
      cases h
      obtain ⟨v, h1, h2⟩ := r'.get hx
      obtain ⟨w, h3, h4⟩ := r2'.get hy
      have hi : i < kvs.length := by
        have := (List.getElem?_eq_some_iff.mp hx).1
        omega
      refine ⟨⟨hq', hi⟩, fun z H'' ⟨T, k, u, hku, e1, hT, e2⟩ => ?_⟩
      subst e1 e2
      rw [List.getElem?_map, hku] at h1 h3
      cases h1
      cases h3
      exact ext_tup S hT (.cons h2 (.cons h4 .nil))
    · cases h
theorem it_zipL {q2 : Addr} {ws : List V} {es : List D} (hq : LstAt K (Own mu g) H q vs) (r : RVs K (Own mu g) mu H vs ds) (hq2 : LstAt K (Own mu g) H q2 ws) (r2 : RVs K (Own mu g) mu H ws es) : ItOk K (Itz K q q2) (.fix (zipD ds es)) mu g H := by
  intro mu' g' H' E S i
  have h1 := hq.mono E.fr E.ow
  have h2 := hq2.mono E.fr E.ow
  have r' := r.ext E
  have r2' := r2.ext E
  have l1 := r.length
  have l2 := r2.length
  simp only [It0.at, zipD_get, Option.some.injEq]
  refine ⟨fun h => ?_, fun d h => ?_⟩
  · split at h
    · cases h
    · rename_i hh
      refine ⟨vs, ws, h1.seq, h2.seq, ?_⟩
      by_cases hi : i < ds.length
      · by_cases hj : i < es.length
        · exact absurd (List.getElem?_eq_getElem hj) (hh ds[i] es[i] (List.getElem?_eq_getElem hi))
        · exact .inr (by omega)
      · exact .inl (by omega)
  · split at h
    · rename_i x y hx hy
      cases h
      obtain ⟨v, a1, a2⟩ := r'.get hx
      obtain ⟨w, b1, b2⟩ := r2'.get hy
      refine ⟨⟨vs, ws, v, w, h1.seq, h2.seq, a1, b1⟩, fun z H'' ⟨T, u, u2, e1, hT, e2, hu, hu2⟩ => ?_⟩
      subst e1 e2
      have := hu vs h1.seq
      rw [a1] at this
      cases this
      have := hu2 ws h2.seq
      rw [b1] at this
      cases this
      exact ext_tup S hT (.cons a2 (.cons b2 .nil))
    · cases h
theorem it_zipT {q2 : Addr} {ws : List V} {es : List D} (hq : TupAt K (Own mu g) H q vs) (r : RVs K (Own mu g) mu H vs ds) (hq2 : TupAt K (Own mu g) H q2 ws) (r2 : RVs K (Own mu g) mu H ws es) : ItOk K (RZ.ItzT K q q2) (.fix (zipD ds es)) mu g H := by
  intro mu' g' H' E S i
  have h1 := hq.mono E.fr E.ow
  have h2 := hq2.mono E.fr E.ow
  have r' := r.ext E
  have r2' := r2.ext E
  have l1 := r.length
  have l2 := r2.length
  simp only [It0.at, zipD_get, Option.some.injEq]
  refine ⟨fun h => ?_, fun d h => ?_⟩
  · split at h
    · cases h
    · rename_i hh
      refine ⟨vs, ws, h1.seq, h2.seq, ?_⟩
      by_cases hi : i < ds.length
      · by_cases hj : i < es.length
        · exact absurd (List.getElem?_eq_getElem hj) (hh ds[i] es[i] (List.getElem?_eq_getElem hi))
        · exact .inr (by omega)
      · exact .inl (by omega)
  · split at h
    · rename_i x y hx hy
      cases h
      obtain ⟨v, a1, a2⟩ := r'.get hx
      obtain ⟨w, b1, b2⟩ := r2'.get hy
      refine ⟨⟨vs, ws, v, w, h1.seq, h2.seq, a1, b1⟩, fun z H'' ⟨T, u, u2, e1, hT, e2, hu, hu2⟩ => ?_⟩
      subst e1 e2
      have := hu vs h1.seq
      rw [a1] at this
      cases this
      have := hu2 ws h2.seq
      rw [b1] at this
      cases this
      exact ext_tup S hT (.cons a2 (.cons b2 .nil))
    · cases h
theorem it_enum (hq : LstAt K (Own mu g) H q vs) (r : RVs K (Own mu g) mu H vs ds) : ItOk K (Ite K q) (.fix (enumD ds)) mu g H := by
  intro mu' g' H' E S i
  have h1 := hq.mono E.fr E.ow
  have r' := r.ext E
  have l1 := r.length
  have hl : (enumD ds).length = ds.length := by unfold enumD; rw [List.length_map, List.length_range]
  simp only [It0.at, Option.some.injEq]
  refine ⟨fun h => ?_, fun d h => ?_⟩
  · have := List.getElem?_eq_none_iff.mp h
    exact ⟨vs, h1.seq, by omega⟩
  · have hi : i < ds.length := by
      have := (List.getElem?_eq_some_iff.mp h).1
      omega
    unfold enumD at h
    rw [List.getElem?_map, List.getElem?_range hi] at h
    cases h
    have hx : ds[i]? = some (ds.getD i .non) := by simp [List.getD, hi]
    obtain ⟨v, a1, a2⟩ := r'.get hx
    refine ⟨⟨vs, v, h1.seq, a1⟩, fun z H'' ⟨T, u, e1, hT, e2, hu⟩ => ?_⟩
    subst e1 e2
    have := hu vs h1.seq
    rw [a1] at this
    cases this
    exact ext_tup S hT (.cons (.int _) (.cons a2 .nil))
end
end DL

set_option Elab.async false
set_option linter.all false
set_option maxRecDepth 100000
set_option maxHeartbeats 4000000
/-! the deep layer: loops and statements -/
namespace DL
open PySem PySem.Spec PyProof.Rows L2

section
variable {X : Cx} {W : WX} {a b c e o tg : Expr} {es : List Expr} {Fa Fb Fc Fo : FE} {Fs : Env' → M (List D)} {pos p apos : Pos} {x : Str}
/-- what an expression gives is gone through -/
theorem si_e (ha : PE X a (tE X.K W Fa)) : PI X tg a (tIt X.K W fun ρ => do
    let x ← Fa ρ
    itM x) :=
  pi_mono (pi_or (pi_or (pi_list ha) (pi_tup ha)) (pi_or (pi_str ha) (pi_keys ha))) fun σ H R' ⟨mu, g, ρ, S, R, h⟩ => by
    have key : ∀ d g1, (∃ it, itOf g1 d = some it) ∨ itOf g1 d = none := fun d g1 => by cases itOf g1 d <;> simp
    have h' := Wp.bd h
    -- which kind of value comes is told by the reading alone
    cases hr : Fa ρ g with
    | bad => rw [hr] at h'; exact h'.elim
    | ex x g1 =>
      rw [hr] at h'
      exact .inl (.inl ⟨mu, g, ρ, S, R, by rw [hr]; exact h'⟩)
    | ok d g1 =>
      rw [hr] at h'
      have go : ∀ (Q : VK), (∀ mu1 H1, Ext mu g H mu1 g1 H1 → Sim X.K mu1 g1 H1 → ∀ v, RV X.K (Own mu1 g1) mu1 H1 v d → Q v H1) → tE X.K W Fa σ H Q := fun Q hQ => ⟨mu, g, ρ, S, R, by rw [hr]; exact hQ⟩
      have base : ∀ mu1 H1, Ext mu g H mu1 g1 H1 → Sim X.K mu1 g1 H1 → ∀ it, itOf g1 d = some it → ∀ J, ItOk X.K J it mu1 g1 H1 → R' J H1 := fun mu1 H1 e1 S1 it hi J hJ => by
        have h1 := h' mu1 H1 e1 S1
        simp only [itM, hi] at h1
        exact Wp.here S1 h1 J hJ
      have nob : ∀ mu1 H1, Ext mu g H mu1 g1 H1 → Sim X.K mu1 g1 H1 → itOf g1 d ≠ none := fun mu1 H1 e1 S1 hn => by
        have h1 := h' mu1 H1 e1 S1
        simp only [itM, hn] at h1
        exact h1
      cases d with
      | tup ds =>
        refine .inl (.inr (go _ fun mu1 H1 e1 S1 v r => ?_))
        obtain ⟨q, vs, rfl, hq, rs⟩ := r.tup_inv
        exact ⟨q, rfl, ⟨vs, hq.seq⟩, base mu1 H1 e1 S1 _ rfl _ (it_tup hq rs)⟩
      | lst ds =>
        refine .inl (.inl (go _ fun mu1 H1 e1 S1 v r => ?_))
        cases r with
        | lst hq rs => exact ⟨_, rfl, ⟨_, hq.seq⟩, base mu1 H1 e1 S1 _ rfl _ (it_lst hq rs)⟩
      | str z =>
        refine .inr (.inl (go _ fun mu1 H1 e1 S1 v r => ?_))
        exact ⟨z, r.str_inv, base mu1 H1 e1 S1 _ rfl _ it_str⟩
      | dct ks ws =>
        refine .inr (.inr (go _ fun mu1 H1 e1 S1 v r => ?_))
        cases r with
        | dct hn hq r1 r2 => exact ⟨_, _, rfl, .inl ⟨_, hq, base mu1 H1 e1 S1 _ rfl _ (it_keys hn hq r1)⟩⟩
      | ref n =>
        refine .inl (.inl (go _ fun mu1 H1 e1 S1 v r => ?_))
        obtain ⟨q, rfl, hm⟩ := r.ref_inv
        cases hi : itOf g1 (.ref n) with
        | none => exact absurd hi (nob mu1 H1 e1 S1)
        | some it =>
          have hi0 := hi
          simp only [itOf] at hi
          split at hi
          · rename_i ds hg
            cases hi
            obtain ⟨vs, hH, rs⟩ := S1.at_ n _ q hg hm
            exact ⟨q, rfl, ⟨vs, .inl (.inl hH)⟩, base mu1 H1 e1 S1 _ hi0 _ (it_dyn hm)⟩
          · cases hi
      | _ => exact .inl (.inl (go _ fun mu1 H1 e1 S1 v r => absurd rfl (nob mu1 H1 e1 S1)))
theorem si_rng1 (hg : Gl X "range") (hm : X.mg "range" = none) (ha : PE X a (tE X.K W Fa)) (hs : starEach [a] X.env = (false, eval a X.env) :: starEach [] X.env) : PI X tg (.Call (.Name "range" p) [a] [] pos) (tIt X.K W fun ρ => do
    let x ← Fa ρ
    match x with
    | .int j => do
      needM (-(2 ^ 62) ≤ j ∧ j < 2 ^ 62)
      pure (.fix (rngD 0 j))
    | _ => M.bad) :=
  pi_mono (pi_range1 hg hm (pa_cons ha pa_nil hs) hs) fun σ H R' ⟨mu, g, ρ, S, R, h⟩ => ⟨mu, g, ρ, S, R, (Wp.bd h).mono fun mu1 g1 H1 d e1 S1 h1 v r => by
    cases d with
    | int j =>
      obtain ⟨⟨q1, q2⟩, k⟩ := Wp.needI h1
      refine ⟨j, by rw [r.int_inv], q1, q2, Wp.here S1 k _ ?_⟩
      have e : j.toNat = (j - 0).toNat := by rw [Int.sub_zero]
      rw [e]
      exact it_rng
    | _ => exact h1.elim⟩
theorem si_rng2 (hg : Gl X "range") (hm : X.mg "range" = none) (ha : PE X a (tE X.K W Fa)) (hb : PE X b (tE X.K W Fb)) (hs : starEach [a, b] X.env = (false, eval a X.env) :: starEach [b] X.env) (hs2 : starEach [b] X.env = (false, eval b X.env) :: starEach [] X.env) : PI X tg (.Call (.Name "range" p) [a, b] [] pos) (tIt X.K W fun ρ => do
    let x ← Fa ρ
    let y ← Fb ρ
    match x, y with
    | .int i, .int j => do
      needM (-(2 ^ 62) ≤ i ∧ i < 2 ^ 62 ∧ -(2 ^ 62) ≤ j ∧ j < 2 ^ 62)
      pure (.fix (rngD i j))
    | _, _ => M.bad) :=
  pi_mono (pi_range2 hg hm (pa_cons ha (pa_cons hb pa_nil hs2) hs) (by rw [hs, hs2]; rfl) hs2) fun σ H R' ⟨mu, g, ρ, S, R, h⟩ => ⟨mu, g, ρ, S, R, (Wp.bd h).mono fun mu1 g1 H1 d e1 S1 h1 v r => ⟨mu1, g1, ρ, S1, R.ext e1, (Wp.bd h1).mono fun mu2 g2 H2 d2 e2 S2 h2 v2 r2 => by
    cases d with
    | int i =>
      cases d2 with
      | int j =>
        obtain ⟨q, k⟩ := Wp.needI h2
        exact ⟨i, j, by rw [r.int_inv, r2.int_inv], q, Wp.here S2 k _ it_rng⟩
      | _ => exact h2.elim
    | _ => exact h2.elim⟩⟩
theorem si_enum {elts : List Expr} {kk : Nat} {tpos : Pos} (hg : Gl X "enumerate") (hm : X.mg "enumerate" = none) (ha : PE X a (tE X.K W Fa)) (hs : starEach [a] X.env = (false, eval a X.env) :: starEach [] X.env) : PI X (.Tuple elts kk tpos) (.Call (.Name "enumerate" p) [a] [] pos) (tIt X.K W fun ρ => do
    let x ← Fa ρ
    match x with
    | .lst ds => pure (.fix (enumD ds))
    | _ => M.bad) :=
  pi_mono (pi_enum hg hm (pa_cons ha pa_nil hs) hs) fun σ H R' ⟨mu, g, ρ, S, R, h⟩ => ⟨mu, g, ρ, S, R, (Wp.bd h).mono fun mu1 g1 H1 d e1 S1 h1 v r => by
    cases d with
    | lst ds =>
      cases r with
      | lst hq rs => exact ⟨_, _, rfl, hq.seq, Wp.here S1 h1 _ (it_enum hq rs)⟩
    | _ => exact h1.elim⟩
theorem si_zip {elts : List Expr} {kk : Nat} {tpos : Pos} (hg : Gl X "zip") (hm : X.mg "zip" = none) (ha : PE X a (tE X.K W Fa)) (hb : PE X b (tE X.K W Fb)) (hs : starEach [a, b] X.env = (false, eval a X.env) :: starEach [b] X.env) (hs2 : starEach [b] X.env = (false, eval b X.env) :: starEach [] X.env) : PI X (.Tuple elts kk tpos) (.Call (.Name "zip" p) [a, b] [] pos) (tIt X.K W fun ρ => do
    let x ← Fa ρ
    let y ← Fb ρ
    match x, y with
    | .lst xs, .lst ys => pure (.fix (zipD xs ys))
    | .tup xs, .tup ys => pure (.fix (zipD xs ys))
    | _, _ => M.bad) :=
  pi_mono (RZ.pi_zipA hg hm (pa_cons ha (pa_cons hb pa_nil hs2) hs) hs (by rw [hs2]; rfl)) fun σ H R' ⟨mu, g, ρ, S, R, h⟩ => ⟨mu, g, ρ, S, R, (Wp.bd h).mono fun mu1 g1 H1 d e1 S1 h1 v r => ⟨mu1, g1, ρ, S1, R.ext e1, (Wp.bd h1).mono fun mu2 g2 H2 d2 e2 S2 h2 v2 r2 => by
    cases d with
    | lst xs =>
      cases d2 with
      | lst ys =>
        have r' := r.ext e2
        cases r' with
        | lst hq rs =>
          cases r2 with
          | lst hq2 rs2 => exact ⟨_, _, _, _, rfl, .inl ⟨hq.seq, hq2.seq, Wp.here S2 h2 _ (it_zipL hq rs hq2 rs2)⟩⟩
      | _ => exact h2.elim
    | tup xs =>
      cases d2 with
      | tup ys =>
        have r' := r.ext e2
        cases r' with
        | tup hq rs =>
          cases r2 with
          | tup hq2 rs2 => exact ⟨_, _, _, _, rfl, .inr ⟨hq.seq, hq2.seq, Wp.here S2 h2 _ (it_zipT hq rs hq2 rs2)⟩⟩
      | _ => exact h2.elim
    | _ => exact h2.elim⟩⟩
theorem si_items {elts : List Expr} {kk : Nat} {tpos cpos : Pos} (ha : PE X a (tE X.K W Fa)) (hbase : attributeBase a "items" X.env (eval a X.env) = eval a X.env) (hline : (apos.endLine == cpos.line) = true) : PI X (.Tuple elts kk tpos) (.Call (.Attribute a "items" apos) [] [] cpos) (tIt X.K W fun ρ => do
    let x ← Fa ρ
    match x with
    | .dct ks vs => pure (.fix (zipD ks vs))
    | _ => M.bad) :=
  pi_mono (pi_items ha hbase hline) fun σ H R' ⟨mu, g, ρ, S, R, h⟩ => ⟨mu, g, ρ, S, R, (Wp.bd h).mono fun mu1 g1 H1 d e1 S1 h1 v r => by
    cases d with
    | dct ks ws =>
      cases r with
      | dct hn hq r1 r2 => exact ⟨_, _, _, rfl, hq, Wp.here S1 h1 _ (it_items hn hq r1 r2)⟩
    | _ => exact h1.elim⟩
theorem si_vals {cpos : Pos} (ha : PE X a (tE X.K W Fa)) (hbase : attributeBase a "values" X.env (eval a X.env) = eval a X.env) (hline : (apos.endLine == cpos.line) = true) : PI X tg (.Call (.Attribute a "values" apos) [] [] cpos) (tIt X.K W fun ρ => do
    let x ← Fa ρ
    match x with
    | .dct _ vs => pure (.fix vs)
    | _ => M.bad) :=
  pi_mono (pi_values ha hbase hline) fun σ H R' ⟨mu, g, ρ, S, R, h⟩ => ⟨mu, g, ρ, S, R, (Wp.bd h).mono fun mu1 g1 H1 d e1 S1 h1 v r => by
    cases d with
    | dct ks ws =>
      cases r with
      | dct hn hq r1 r2 => exact ⟨_, _, _, rfl, hq, Wp.here S1 h1 _ (it_vals hn hq r2)⟩
    | _ => exact h1.elim⟩
end

/-! ### statements -/
section
variable {K : PySem.W.Frag} {W : WX} {D' D2 : Ends} {mu : List Addr} {g : G} {H : Hp} {α : Type}
theorem Wp.lift {ρ : Env'} {σ : L2.St} {m : M α} {k : α → M (Fl × Env')} (R : RE K (Own mu g) mu H σ ρ) (h : Wp K (fun _ _ _ => False) mu g H (liftS ρ m k g) (flEnd K W D')) :
    Wp K (fun c d H => W c d σ H) mu g H (m g) fun mu' g' H' a => Wp K (fun _ _ _ => False) mu' g' H' (k a g') (flEnd K W D') := by
  unfold liftS at h
  cases e : m g with
  | ok a g' =>
    rw [e] at h
    exact fun mu' H' e' s => Wp.ext e' h
  | ex x g' =>
    rw [e] at h
    exact fun mu' H' dx e' s xr => (h mu' H' e' s) σ dx (R.ext e') xr
  | bad => rw [e] at h; exact h.elim
theorem Wp.liftI {ρ : Env'} {σ : L2.St} {m : M α} {k : α → M (Fl × Env')} {P : Prop} (R : RE K (Own mu g) mu H σ ρ) (h : Wp K (fun _ _ _ => False) mu g H (liftS ρ m k g) (flEnd K W D')) (f : (Wp K (fun c d H => W c d σ H) mu g H (m g) fun mu' g' H' a => Wp K (fun _ _ _ => False) mu' g' H' (k a g') (flEnd K W D')) → P) : P := f (Wp.lift R h)
end
section
variable {X : Cx} {W : WX} {a b c e o tg iter : Expr} {es : List Expr} {Fa Fb Fc Fo : FE} {Fs : Env' → M (List D)} {F1 F2 : FS} {pos p apos : Pos} {x : Str} {body orelse : List Stmt} {vs : List Nat} {Ft : FT} {Fi : Env' → M It0} {Tc : Env' → M Bool}
theorem ss_ex (ha : PE X a (tE X.K W Fa)) (hs : swapsWith a none pos.line X.env = pure false) : PS X (.Expr a pos) (tS X.K W fun ρ => liftS ρ (Fa ρ) fun _ => pure (.nx, ρ)) :=
  ps_mono (ps_expr ha hs) fun D' σ H ⟨mu, g, ρ, S, R, h⟩ => ⟨mu, g, ρ, S, R, (Wp.lift R h).mono fun mu1 g1 H1 d e1 S1 h1 v r => Wp.here S1 h1 σ (R.ext e1)⟩
theorem ss_ret (ha : PE X a (tE X.K W Fa)) : PS X (.Return (some a) pos) (tS X.K W fun ρ => liftS ρ (Fa ρ) fun d => pure (.rt d, ρ)) :=
  ps_mono (ps_ret ha) fun D' σ H ⟨mu, g, ρ, S, R, h⟩ => ⟨mu, g, ρ, S, R, (Wp.lift R h).mono fun mu1 g1 H1 d e1 S1 h1 v r => Wp.here S1 h1 v r⟩
theorem ss_retn : PS X (.Return none pos) (tS X.K W fun ρ => pure (.rt .non, ρ)) := ps_mono ps_retN fun D' σ H ⟨mu, g, ρ, S, R, h⟩ => Wp.here S h .non .non
theorem ss_pas : PS X (.Pass pos) (tS X.K W fun ρ => pure (.nx, ρ)) := ps_mono ps_pass fun D' σ H ⟨mu, g, ρ, S, R, h⟩ => Wp.here S h σ R
theorem ss_brk : PS X (.Break pos) (tS X.K W fun ρ => pure (.bk, ρ)) := ps_mono ps_break fun D' σ H ⟨mu, g, ρ, S, R, h⟩ => Wp.here S h σ R
theorem ss_cnt : PS X (.Continue pos) (tS X.K W fun ρ => pure (.ct, ρ)) := ps_mono ps_continue fun D' σ H ⟨mu, g, ρ, S, R, h⟩ => Wp.here S h σ R
theorem ss_iff (hc : PT X c (tT X.K W Tc)) (ha : PSs X body (tS X.K W F1)) (hb : PSs X orelse (tS X.K W F2)) : PS X (.If c body orelse pos) (tS X.K W fun ρ => liftS ρ (Tc ρ) fun k => if k then F1 ρ else F2 ρ) :=
  ps_mono (ps_if hc ha hb) fun D' σ H ⟨mu, g, ρ, S, R, h⟩ => ⟨mu, g, ρ, S, R, (Wp.lift R h).mono fun mu1 g1 H1 k e1 S1 h1 => by
    cases k with
    | true => exact ⟨mu1, g1, ρ, S1, R.ext e1, h1⟩
    | false => exact ⟨mu1, g1, ρ, S1, R.ext e1, h1⟩⟩
theorem ss_asg (ha : PE X a (tE X.K W Fa)) (hg : PG X tg (tG X.K vs Ft)) (hs : swapsWithSole [tg] a pos.line X.env = pure false) (hw : swappedStores [tg] a X.env = pure none) (h1 : (assignEach [tg] X.env).map (·.2) = [assign tg X.env]) :
    PS X (.Assign [tg] a pos) (tS X.K W fun ρ => liftS ρ (Fa ρ) fun d => do
      let ρ' ← noEx (Ft d ρ)
      pure (.nx, ρ')) :=
  ps_mono (ps_asg ha hg hs hw h1) fun D' σ H ⟨mu, g, ρ, S, R, h⟩ => ⟨mu, g, ρ, S, R, (Wp.lift R h).mono fun mu1 g1 H1 d e1 S1 h1 v r =>
    ⟨mu1, g1, ρ, d, S1, R.ext e1, r, (Wp.noEx (Wp.bd h1)).mono fun mu2 g2 H2 ρ2 e2 S2 h2 σ2 R2 _ => Wp.here S2 h2 σ2 R2⟩⟩
theorem rput_ok {K : PySem.W.Frag} {own : Addr → Prop} {mu : List Addr} {H : Hp} {f : Str} {v : V} {d : D} (hv : RV K own mu H v d) : ∀ {fs : List (Str × V)} {ds : List D}, RVs K own mu H (fs.map (·.2)) ds →
    (putF f v fs).map (·.1) = (fput (fs.map (·.1)) ds f d).1 ∧ RVs K own mu H ((putF f v fs).map (·.2)) (fput (fs.map (·.1)) ds f d).2
  | [], _, r => by
    cases r
    exact ⟨rfl, .cons hv .nil⟩
  | (n, w) :: fs, ds, r => by
    cases r with
    | @cons _ _ d0 ds r t =>
      simp only [putF, List.map_cons, fput]
      by_cases e : n = f
      · rw [if_pos e, if_pos e]
        exact ⟨rfl, .cons hv t⟩
      · rw [if_neg e, if_neg e]
        obtain ⟨q1, q2⟩ := rput_ok hv t
        exact ⟨by simp only [List.map_cons]; rw [q1], .cons r q2⟩
/-- o.f = a -/
theorem ss_fld {fld : Str → Str → Bool} {f : Str} {pos' : Pos} (hf : FldOk X fld) (ho : PE X o (tE X.K (fun _ _ _ _ => False) Fo)) (ha : PE X a (tE X.K W Fa)) (hs : swapsWith a (some (.Attribute o f pos')) pos.line X.env = pure false) :
    PS X (.Assign [.Attribute o f pos'] a pos) (tS X.K W fun ρ => liftS ρ (Fa ρ) fun d => do
      let ρ' ← noEx (do
        let x ← Fo ρ
        setFldM fld x f d
        pure ρ)
      pure (.nx, ρ')) :=
  ps_mono (ps_fld ho ha hs) fun D' σ H ⟨mu, g, ρ, S, R, h⟩ => ⟨mu, g, ρ, S, R, (Wp.lift R h).mono fun mu1 g1 H1 d e1 S1 h1 v r => ⟨mu1, g1, ρ, S1, R.ext e1, by
    have k1 : Wp X.K (fun _ _ _ => False) mu1 g1 H1 ((do
        let x ← Fo ρ
        setFldM fld x f d
        pure ρ : M Env') g1) _ := Wp.noEx (Wp.bd h1)
    refine (Wp.bd k1).mono fun mu2 g2 H2 d2 e2 S2 h2 v2 r2 => ?_
    have h4 := Wp.bd h2
    unfold setFldM at h4
    split at h4
    · rename_i n
      obtain ⟨q, rfl, hm⟩ := r2.ref_inv
      split at h4
      · rename_i C ns ws hg
        split at h4
        · rename_i ef
          split at h4
          · rename_i hl
            obtain ⟨dx, fs, hH, rfl, rs⟩ := S2.at_ n _ q hg hm
            obtain ⟨q1, q2⟩ := rput_ok (f := f) (r.ext e2) rs
            have E : Ext mu2 g2 H2 mu2 (g2.set n (.ins C (fput (fs.map (·.1)) ws f d).1 (fput (fs.map (·.1)) ws f d).2)) (upd H2 q (.ins (He.ga X.K C) dx (putF f v fs))) := Ext.set hg rfl hm
            have S3 : Sim X.K mu2 (g2.set n (.ins C (fput (fs.map (·.1)) ws f d).1 (fput (fs.map (·.1)) ws f d).2)) (upd H2 q (.ins (He.ga X.K C) dx (putF f v fs))) := S2.set hg rfl hm ⟨dx, _, upd_same, q1, q2.ext E⟩
            refine ⟨q, _, dx, fs, rfl, hH, (hf C f ef).1, (hf C f ef).2, by rw [List.length_map] at hl; omega, ?_⟩
            have k2 := Wp.here S3 (h4 _ _ E S3)
            exact Wp.here S3 k2 σ (((R.ext e1).ext e2).ext E)
          · exact h4.elim
        · exact h4.elim
      · exact h4.elim
    · exact h4.elim⟩⟩
theorem ss_augv {i : Nat} {op : Operator} {f : D → D → Option D} {pos' : Pos} (hN : X.N.Nodup) (hi : X.N[i]? = some x) (hx : Loc X.env.scope x) (hf : X.fn x = true ∨ X.env.scope.names.lookup x = some .local) (ho : OpR X (inplaceOp op) (rF2 X.K f)) (ha : PE X a (tE X.K W Fa)) :
    PS X (.AugAssign (.Name x pos') op a pos) (tS X.K W fun ρ => liftS ρ (do
      let x ← optM (slot ρ i)
      let y ← Fa ρ
      let x ← rdM x
      let y ← rdM y
      optM (f x y)) fun z => pure (.nx, ρ.set i (some z))) :=
  ps_mono (ps_aug hN hi hx ha ho hf) fun D' σ H ⟨mu, g, ρ, S, R, h⟩ => by
    obtain ⟨d0, hd0, k⟩ := Wp.optB (Wp.lift R h)
    obtain ⟨v0, hv0, r0⟩ := R.at_ i d0 (slot_some hd0)
    refine ⟨v0, hv0, mu, g, ρ, S, R, (Wp.bd k).mono fun mu1 g1 H1 d e1 S1 h1 v r => ?_⟩
    obtain ⟨z, hz, k2⟩ := Wp.optI (Wp.rdI (Wp.rdI h1))
    exact ⟨mu1, g1, d0, d, z, S1, r0.ext e1, r, hz, fun mu2 H2 e2 S2 v2 r2 => Wp.here S2 (k2 mu2 H2 e2 S2) _ (((R.ext e1).ext e2).set i r2)⟩
theorem ss_par2 {i j : Nat} {y : Str} {px py pt : Pos} {kt k2 : Nat} {pt2 : Pos} (hc : X.calm = true) (hN : X.N.Nodup) (hi : X.N[i]? = some x) (hj : X.N[j]? = some y) (hij : i ≠ j)
    (hx : X.env.scope.names.lookup x = some .local) (hy : X.env.scope.names.lookup y = some .local) (ha : PA X [a, b] (tA X.K W Fs))
    (hw : swappedStores [.Tuple [.Name x px, .Name y py] kt pt] (.Tuple [a, b] k2 pt2) X.env = pure (some [x, y]))
    (hs : swapsWithSole [.Tuple [.Name x px, .Name y py] kt pt] (.Tuple [a, b] k2 pt2) pos.line X.env = pure false) :
    PS X (.Assign [.Tuple [.Name x px, .Name y py] kt pt] (.Tuple [a, b] k2 pt2) pos) (tS X.K W fun ρ => liftS ρ (Fs ρ) fun ds => match parSet [i, j] ds ρ with
      | some ρ' => pure (.nx, ρ')
      | none => M.bad) :=
  ps_mono (ps_par hc hN hi hj hij hx hy ha hw hs) fun D' σ H ⟨mu, g, ρ, S, R, h⟩ => ⟨mu, g, ρ, S, R, (Wp.lift R h).mono fun mu1 g1 H1 ds e1 S1 h1 vs rs => by
    cases rs with
    | nil => exact h1.elim
    | cons r rs =>
      cases rs with
      | nil => exact h1.elim
      | cons r2 rs =>
        cases rs with
        | nil => exact ⟨_, _, rfl, Wp.here S1 h1 _ (((R.ext e1).set i r).set j r2)⟩
        | cons _ _ => exact h1.elim⟩
theorem ss_par3 {i j l : Nat} {y z : Str} {px py pz pt : Pos} {kt k2 : Nat} {pt2 : Pos} (hc : X.calm = true) (hN : X.N.Nodup) (hi : X.N[i]? = some x) (hj : X.N[j]? = some y) (hl : X.N[l]? = some z) (hij : i ≠ j) (hil : i ≠ l) (hjl : j ≠ l)
    (hx : X.env.scope.names.lookup x = some .local) (hy : X.env.scope.names.lookup y = some .local) (hz : X.env.scope.names.lookup z = some .local) (ha : PA X [a, b, c] (tA X.K W Fs))
    (hw : swappedStores [.Tuple [.Name x px, .Name y py, .Name z pz] kt pt] (.Tuple [a, b, c] k2 pt2) X.env = pure (some [x, y, z]))
    (hs : swapsWithSole [.Tuple [.Name x px, .Name y py, .Name z pz] kt pt] (.Tuple [a, b, c] k2 pt2) pos.line X.env = pure false) :
    PS X (.Assign [.Tuple [.Name x px, .Name y py, .Name z pz] kt pt] (.Tuple [a, b, c] k2 pt2) pos) (tS X.K W fun ρ => liftS ρ (Fs ρ) fun ds => match parSet [i, j, l] ds ρ with
      | some ρ' => pure (.nx, ρ')
      | none => M.bad) :=
  ps_mono (ps_par3 hc hN hi hj hl hij hil hjl hx hy hz ha hw hs) fun D' σ H ⟨mu, g, ρ, S, R, h⟩ => ⟨mu, g, ρ, S, R, (Wp.lift R h).mono fun mu1 g1 H1 ds e1 S1 h1 vs rs => by
    cases rs with
    | nil => exact h1.elim
    | cons r rs =>
      cases rs with
      | nil => exact h1.elim
      | cons r2 rs =>
        cases rs with
        | nil => exact h1.elim
        | cons r3 rs =>
          cases rs with
          | nil => exact ⟨_, _, _, rfl, Wp.here S1 h1 _ ((((R.ext e1).set i r).set j r2).set l r3)⟩
          | cons _ _ => exact h1.elim⟩
/-- the statements' rows -/
theorem sss_nil : PSs X [] (tS X.K W fun ρ => pure (.nx, ρ)) := pss_mono pss_nil fun D' σ H ⟨mu, g, ρ, S, R, h⟩ => Wp.here S h σ R
theorem Wp.seq {K : PySem.W.Frag} {D' : Ends} {mu : List Addr} {g : G} {H : Hp} {r : R (Fl × Env')} {k : Env' → M (Fl × Env')} (h : Wp K (fun _ _ _ => False) mu g H (seqS r k) (flEnd K W D')) :
    Wp K (fun _ _ _ => False) mu g H r (flEnd K W { D' with nx := tS K W k D' }) := by
  unfold seqS at h
  cases r with
  | bad => exact h.elim
  | ex x g' => exact fun mu' H' dx e' s xr => h mu' H' dx e' s xr
  | ok y g' =>
    intro mu' H' e' s
    obtain ⟨f, ρ⟩ := y
    cases f with
    | nx => exact fun σ R => ⟨mu', g', ρ, s, R, Wp.ext e' h⟩
    | bk => exact h mu' H' e' s
    | ct => exact h mu' H' e' s
    | rt d => exact h mu' H' e' s
    | rs x => exact h mu' H' e' s
theorem sss_cons {s : Stmt} {ss : List Stmt} (h1 : PS X s (tS X.K W F1)) (h2 : PSs X ss (tS X.K W F2)) : PSs X (s :: ss) (tS X.K W fun ρ => fun g => seqS (F1 ρ g) F2) :=
  pss_mono (pss_cons h1 h2) fun D' σ H ⟨mu, g, ρ, S, R, h⟩ => ⟨mu, g, ρ, S, R, Wp.seq h⟩

/-! ### loops -/
/-- the turns -/
theorem loop_ok {K : PySem.W.Frag} {it : It0} {Fb : FS} {J : It} {mu0 : List Addr} {g0 : G} {H0 : Hp} {D' : Ends} (hJ : ItOk K J it mu0 g0 H0) : ∀ (m i : Nat) (σ : L2.St) (H : Hp),
    (∃ mu g ρ, Ext mu0 g0 H0 mu g H ∧ Sim K mu g H ∧ RE K (Own mu g) mu H σ ρ ∧ Wp K (fun _ _ _ => False) mu g H (loopS it (fun d ρ => do
      let ρ1 ← noEx (Ft d ρ)
      Fb ρ1) m i ρ g) (flEnd K W D')) →
    (J.stop i H ∧ D'.nx σ H) ∨ (J.go i H ∧ ∃ m', m = m' + 1 ∧ ∀ x H', J.yld i H x H' → tG K vs Ft x σ H' fun σ2 H2 => tS K W Fb { D' with
      nx := fun σ H => ∃ mu g ρ, Ext mu0 g0 H0 mu g H ∧ Sim K mu g H ∧ RE K (Own mu g) mu H σ ρ ∧ Wp K (fun _ _ _ => False) mu g H (loopS it (fun d ρ => do
        let ρ1 ← noEx (Ft d ρ)
        Fb ρ1) m' (i + 1) ρ g) (flEnd K W D')
      ct := fun σ H => ∃ mu g ρ, Ext mu0 g0 H0 mu g H ∧ Sim K mu g H ∧ RE K (Own mu g) mu H σ ρ ∧ Wp K (fun _ _ _ => False) mu g H (loopS it (fun d ρ => do
        let ρ1 ← noEx (Ft d ρ)
        Fb ρ1) m' (i + 1) ρ g) (flEnd K W D')
      bk := D'.nx } σ2 H2) := by
  intro m i σ H ⟨mu, g, ρ, E, S, R, h⟩
  obtain ⟨hstop, hgo⟩ := hJ mu g H E S i
  cases m with
  | zero =>
    simp only [loopS] at h
    split at h
    · rename_i hn
      exact .inl ⟨hstop hn, Wp.here S h σ R⟩
    · exact h.elim
  | succ m =>
    simp only [loopS] at h
    split at h
    · rename_i hn
      exact .inl ⟨hstop hn, Wp.here S h σ R⟩
    · rename_i d hd
      obtain ⟨q1, q2⟩ := hgo d hd
      refine .inr ⟨q1, m, rfl, fun x H' hy => ?_⟩
      obtain ⟨e1, S1, r⟩ := q2 x H' hy
      refine ⟨mu, g, ρ, d, S1, R.ext e1, r, ?_⟩
      have h1 := Wp.bind (Wp.ext e1 h)
      refine (Wp.noEx (Wp.bd h1)).mono fun mu2 g2 H2 ρ2 e2 S2 h2 σ2 R2 _ => ⟨mu2, g2, ρ2, S2, R2, h2.mono fun mu3 g3 H3 y e3 S3 h3 => ?_⟩
      have E3 := ((E.trans e1).trans e2).trans e3
      obtain ⟨f, ρ3⟩ := y
      cases f with
      | nx => exact fun σ3 R3 => ⟨mu3, g3, ρ3, E3, S3, R3, h3⟩
      | ct => exact fun σ3 R3 => ⟨mu3, g3, ρ3, E3, S3, R3, h3⟩
      | bk => exact fun σ3 R3 => Wp.here S3 h3 σ3 R3
      | rt d => exact Wp.here (X := fun _ _ _ => False) S3 h3
      | rs x => exact Wp.here (X := fun _ _ _ => False) S3 h3
    · exact h.elim
theorem ss_for (hp : PassesOwn (model X.prog X.w) X.A X.env X.xe) (hc : X.calm = true) (hi : PI X tg iter (tIt X.K W Fi)) (hg : PG X tg (tG X.K vs Ft)) (hb : PSs X body (tS X.K W F1)) (hs : ∀ x, foldedSetIterable iter X.env x = pure x) :
    PS X (.For tg iter body [] pos) (tS X.K W fun ρ => liftS ρ (Fi ρ) fun i => fun g => loopS i (fun d ρ => do
      let ρ1 ← noEx (Ft d ρ)
      F1 ρ1) (i.len g) 0 ρ g) :=
  ps_mono (ps_for hp hc hi hg hb hs) fun D' σ H ⟨mu, g, ρ, S, R, h⟩ => ⟨mu, g, ρ, S, R, (Wp.lift R h).mono fun mu1 g1 H1 it e1 S1 h1 J hJ => by
    refine ⟨fun i m σ H => ∃ mu g ρ, Ext mu1 g1 H1 mu g H ∧ Sim X.K mu g H ∧ RE X.K (Own mu g) mu H σ ρ ∧ Wp X.K (fun _ _ _ => False) mu g H (loopS it (fun d ρ => do
      let ρ1 ← noEx (Ft d ρ)
      F1 ρ1) m i ρ g) (flEnd X.K W D'), ⟨it.len g1, mu1, g1, ρ, .refl, S1, R.ext e1, h1⟩, fun i m σ H w => ?_⟩
    rcases loop_ok (vs := vs) hJ m i σ H w with q | ⟨q1, m', rfl, q2⟩
    · exact .inl q
    · exact .inr ⟨q1, _, fun σ' H' n => ⟨m', Nat.lt_succ_self _, n⟩, q2⟩⟩
theorem ss_whl {n : Nat} (hp : PassesOwn (model X.prog X.w) X.A X.env X.xe) (hc : PT X c (tT X.K W Tc)) (hb : PSs X body (tS X.K W F1)) : PS X (.While c body [] pos) (tS X.K W fun ρ => whileS Tc F1 n ρ) :=
  ps_mono (ps_while hp hc hb) fun D' σ H ⟨mu, g, ρ, S, R, h⟩ => by
    refine ⟨fun m σ H => ∃ mu g ρ, Sim X.K mu g H ∧ RE X.K (Own mu g) mu H σ ρ ∧ Wp X.K (fun _ _ _ => False) mu g H (whileS Tc F1 m ρ g) (flEnd X.K W D'), ⟨n, mu, g, ρ, S, R, h⟩, ?_⟩
    intro m σ H ⟨mu, g, ρ, S, R, h⟩
    cases m with
    | zero => exact h.elim
    | succ m =>
      refine ⟨mu, g, ρ, S, R, (Wp.lift R h).mono fun mu1 g1 H1 k e1 S1 h1 => ?_⟩
      cases k with
      | false => exact Wp.here S1 h1 σ (R.ext e1)
      | true =>
        refine ⟨_, fun σ' H' q => ⟨m, Nat.lt_succ_self _, q⟩, mu1, g1, ρ, S1, R.ext e1, ?_⟩
        refine (Wp.bind h1).mono fun mu3 g3 H3 y e3 S3 h3 => ?_
        obtain ⟨f, ρ3⟩ := y
        cases f with
        | nx => exact fun σ3 R3 => ⟨mu3, g3, ρ3, S3, R3, h3⟩
        | ct => exact fun σ3 R3 => ⟨mu3, g3, ρ3, S3, R3, h3⟩
        | bk => exact fun σ3 R3 => Wp.here S3 h3 σ3 R3
        | rt d => exact Wp.here (X := fun _ _ _ => False) S3 h3
        | rs x => exact Wp.here (X := fun _ _ _ => False) S3 h3
end
end DL

set_option Elab.async false
set_option linter.all false
set_option maxRecDepth 100000
set_option maxHeartbeats 4000000
/-! the deep layer: list comprehensions, things let go -/
namespace DL
open PySem PySem.Spec PyProof.Rows L2

theorem rbind_assoc {α β γ : Type} (r : R α) (k : α → M β) (l : β → M γ) : (r.bind k).bind l = r.bind fun a g => (k a g).bind l := by
  cases r <;> rfl
section
variable {K : PySem.W.Frag} {Xk : XK} {mu : List Addr} {g : G} {H : Hp}
theorem Wp.bindI {α β : Type} {r : R α} {k : α → M β} {Q : List Addr → G → Hp → β → Prop} (h : Wp K Xk mu g H (r.bind k) Q) : Wp K Xk mu g H r (fun mu' g' H' a => Wp K Xk mu' g' H' (k a g') Q) := Wp.bind (m := fun _ => r) h
/-- the new list told -/
theorem endL_ok {fz : Bool} {n : Nat} {q : Addr} {Q : VK} (S : Sim K mu g H) (hm : mu[n]? = some q) (h : Wp K Xk mu g H (endL fz n g) fun mu' g' H' d => ∀ v, RV K (Own mu' g') mu' H' v d → Q v H') : Q (.ref q) H := by
  unfold endL at h
  cases fz with
  | false => exact Wp.here S h _ (.ref hm)
  | true =>
    simp only at h
    split at h
    · rename_i xs hg
      obtain ⟨vs, hH, r⟩ := S.at_ n _ q hg hm
      have E : Ext mu g H mu (g.set n .gone) H := Ext.gone hg rfl
      exact h _ _ E (S.gone hg rfl hm) _ (.lst (.inl ⟨nown_gone S hm, .inl hH⟩) (r.ext E))
    · exact h.elim
theorem addTo_ok {n : Nat} {q : Addr} {d : D} {v : V} {Q : List Addr → G → Hp → Unit → Prop} (S : Sim K mu g H) (hm : mu[n]? = some q) (r : RV K (Own mu g) mu H v d) (h : Wp K Xk mu g H (addTo n d g) Q) :
    ∃ acc g', H q = some (.lst acc) ∧ acc.length < sizeLine ∧ Ext mu g H mu g' (upd H q (.lst (acc ++ [v]))) ∧ Sim K mu g' (upd H q (.lst (acc ++ [v]))) ∧ Q mu g' (upd H q (.lst (acc ++ [v]))) () := by
  unfold addTo at h
  split at h
  · rename_i xs hg
    split at h
    · rename_i hz
      obtain ⟨vs, hH, rs⟩ := S.at_ n _ q hg hm
      have hl := rs.length
      have rn := rs.append (.cons r .nil)
      have E : Ext mu g H mu (g.set n (.lst (xs ++ [d]))) (upd H q (.lst (vs ++ [v]))) := Ext.set hg rfl hm
      have S' := S.setL hg rfl hm rn
      exact ⟨vs, _, hH, by omega, E, S', h _ _ E S'⟩
    · exact h.elim
  · exact h.elim
end
abbrev WN : WX := fun _ _ _ _ => False
section
variable {X : Cx} {W : WX} {elt tg iter : Expr} {ifs : List Expr} {scope : Scope} {own : List (Str × Nat)} {pos spos py : Pos} {Fe : FE} {Ft : FT} {Fi : Env' → M It0} {Ti : Env' → M Bool} {vs : List Nat} {y : Str} {i0 : Nat}
/-- a comprehension's meaning -/
def lcM (fz : Bool) (own : List Nat) (Fi : Env' → M It0) (Ft : FT) (Ti : Env' → M Bool) (Fe : FE) (ρ : Env') : M D := do
  let i ← Fi ρ
  let n ← newL
  (fun g => loopC i n (fun d => do
    let ρ1 ← Ft d (wipeE ρ own)
    let k ← Ti ρ1
    if k then do
      let y ← Fe ρ1
      pure (some y)
    else pure none) (i.len g) 0 g)
  endL fz n
theorem lc_ok {K : PySem.W.Frag} {fz : Bool} (hvs : ∀ i ∈ vs, i ∈ own.map (·.2)) {σ : L2.St} {H : Hp} {Q : VK} (h : tE K W (lcM fz (own.map (·.2)) Fi Ft Ti Fe) σ H Q) : tLc (tIt K W Fi) (tG K vs Ft) (tT K WN Ti) (tE K WN Fe) (own.map (·.2)) σ H Q := by
  obtain ⟨mu, g, ρ, S, R, h⟩ := h
  refine ⟨mu, g, ρ, S, R, (Wp.bd h).mono fun mu1 g1 H1 it e1 S1 h1 J hJ => ?_⟩
  intro q hq
  generalize hbody : (fun (d : D) => (do
      let ρ1 ← Ft d (wipeE ρ (own.map (·.2)))
      let k ← Ti ρ1
      if k then do
        let y ← Fe ρ1
        pure (some y)
      else pure none : M (Option D))) = body at h1
  have E0 : Ext mu1 g1 H1 (mu1 ++ [q]) (g1 ++ [O.lst []]) (upd H1 q (.lst [])) := Ext.alloc S1.len hq
  have S0 : Sim K (mu1 ++ [q]) (g1 ++ [O.lst []]) (upd H1 q (.lst [])) := S1.alloc hq ⟨[], upd_same, .nil⟩
  have hm0 : (mu1 ++ [q])[g1.length]? = some q := by rw [← S1.len]; simp
  have h2 : Wp K (fun c d H => W c d σ H) mu1 g1 H1 ((loopC it g1.length body (it.len (g1 ++ [O.lst []])) 0 (g1 ++ [O.lst []])).bind fun _ => endL fz g1.length) (fun mu' g' H' d => ∀ v, RV K (Own mu' g') mu' H' v d → Q v H') := h1
  refine ⟨fun i m H => ∃ mu g, Ext (mu1 ++ [q]) (g1 ++ [O.lst []]) (upd H1 q (.lst [])) mu g H ∧ Sim K mu g H ∧ Wp K (fun c d H => W c d σ H) mu g H ((loopC it g1.length body m i g).bind fun _ => endL fz g1.length) (fun mu' g' H' d => ∀ v, RV K (Own mu' g') mu' H' v d → Q v H'),
    ⟨_, _, _, .refl, S0, Wp.ext E0 h2⟩, ?_⟩
  intro i m H2 ⟨mu2, g2, E2, S2, k⟩
  have hm2 := pre_get E2.pre hm0
  obtain ⟨hstop, hgo⟩ := hJ mu2 g2 H2 (E0.trans E2) S2 i
  have RR : RE K (Own mu2 g2) mu2 H2 (L2.wipe σ (own.map (·.2))) (wipeE ρ (own.map (·.2))) := (((R.ext e1).ext E0).ext E2).wipe _
  cases m with
  | zero =>
    simp only [loopC] at k
    split at k
    · rename_i hn
      exact .inl ⟨hstop hn, endL_ok S2 hm2 k⟩
    · exact k.elim
  | succ m =>
    simp only [loopC] at k
    split at k
    · rename_i hn
      exact .inl ⟨hstop hn, endL_ok S2 hm2 k⟩
    · rename_i d hd
      obtain ⟨q1, q2⟩ := hgo d hd
      rw [rbind_assoc] at k
      refine .inr ⟨q1, fun H => ∃ mu g, Ext (mu1 ++ [q]) (g1 ++ [O.lst []]) (upd H1 q (.lst [])) mu g H ∧ Sim K mu g H ∧ Wp K (fun c d H => W c d σ H) mu g H ((loopC it g1.length body m (i + 1) g).bind fun _ => endL fz g1.length) (fun mu' g' H' d => ∀ v, RV K (Own mu' g') mu' H' v d → Q v H'),
        fun H' n => ⟨m, Nat.lt_succ_self _, n⟩, fun x H3 hy => ?_⟩
      obtain ⟨e3, S3, r⟩ := q2 x H3 hy
      refine ⟨mu2, g2, _, d, S3, RR.ext e3, r, ?_⟩
      have k1 : Wp K (fun _ _ _ => False) mu2 g2 H3 (body d g2) _ := Wp.noEx (Wp.bindI (Wp.ext e3 k))
      subst hbody
      refine (Wp.bd k1).mono fun mu4 g4 H4 ρ4 e4 S4 h4 σ4 R4 A4 => ⟨A4.wipe hvs, mu4, g4, ρ4, S4, R4, (Wp.bd h4).mono fun mu5 g5 H5 b e5 S5 h5 => ?_⟩
      have E5 := (E2.trans (e3.trans e4)).trans e5
      cases b with
      | false =>
        exact ⟨mu5, g5, E5, S5, Wp.here S5 h5⟩
      | true =>
        refine ⟨mu5, g5, ρ4, S5, R4.ext e5, (Wp.bd h5).mono fun mu6 g6 H6 y e6 S6 h6 v6 r6 => ?_⟩
        have k2 := Wp.here S6 h6
        simp only at k2
        rw [rbind_assoc] at k2
        have hm6 := pre_get (E5.trans e6).pre hm0
        obtain ⟨acc, g7, a1, a2, E7, S7, k3⟩ := addTo_ok S6 hm6 r6 (Wp.bindI k2)
        exact ⟨acc, a1, a2, mu6, g7, (E5.trans e6).trans E7, S7, k3⟩
    · exact k.elim
theorem s_lc {fz : Bool} (hvs : ∀ i ∈ vs, i ∈ own.map (·.2)) (hc : X.calm = true) (hN : X.N.Nodup) (hi : PI X tg iter (tIt X.K W Fi)) (ok : BlkOk X.N X.env.scope scope own)
    (hg : ∀ (s : Shared) (H : Hp) (C : Addr) (cl : List (Str × Addr)) (fp : List Addr), PG (X.blk s H scope (compEnvC scope cl C X.env) fp) tg (tG X.K vs Ft)) (ht : ∀ (s : Shared) (H : Hp) (C : Addr) (cl : List (Str × Addr)) (fp : List Addr), PTs (X.blk s H scope (compEnvC scope cl C X.env) fp) ifs (tT X.K WN Ti))
    (he : ∀ (s : Shared) (H : Hp) (C : Addr) (cl : List (Str × Addr)) (fp : List Addr), PE (X.blk s H scope (compEnvC scope cl C X.env) fp) elt (tE X.K WN Fe)) (hs : ∀ x, foldedSetIterable iter X.env x = pure x) :
    PE X (.ListComp elt [⟨tg, iter, ifs, 0⟩] scope pos) (tE X.K W (lcM fz (own.map (·.2)) Fi Ft Ti Fe)) :=
  pe_mono (pe_lc hc hN hi ok hg ht he hs) fun σ H Q h => lc_ok hvs h
theorem ss_lc {fz : Bool} (hvs : ∀ i ∈ vs, i ∈ own.map (·.2)) (hc : X.calm = true) (hN : X.N.Nodup) (hy : X.N[i0]? = some y) (hyl : X.env.scope.names.lookup y = some .local)
    (hsw : swapsWith (.ListComp elt [⟨tg, iter, ifs, 0⟩] scope pos) (some (.Name y py)) spos.line X.env = pure true) (hi : PI X tg iter (tIt X.K W Fi)) (ok : BlkOk X.N X.env.scope scope own)
    (hg : ∀ (s : Shared) (H : Hp) (C : Addr) (cl : List (Str × Addr)) (fp : List Addr), PG (X.blk s H scope (compEnvC scope cl C X.env) fp) tg (tG X.K vs Ft)) (ht : ∀ (s : Shared) (H : Hp) (C : Addr) (cl : List (Str × Addr)) (fp : List Addr), PTs (X.blk s H scope (compEnvC scope cl C X.env) fp) ifs (tT X.K WN Ti))
    (he : ∀ (s : Shared) (H : Hp) (C : Addr) (cl : List (Str × Addr)) (fp : List Addr), PE (X.blk s H scope (compEnvC scope cl C X.env) fp) elt (tE X.K WN Fe)) (hs : ∀ x, foldedSetIterable iter X.env x = pure x) :
    PS X (.Assign [.Name y py] (.ListComp elt [⟨tg, iter, ifs, 0⟩] scope pos) spos) (tS X.K W fun ρ => liftS ρ (lcM fz (own.map (·.2)) Fi Ft Ti Fe ρ) fun d => do
      let ρ' ← noEx (pure (ρ.set i0 (some d)) : M Env')
      pure (.nx, ρ')) :=
  ps_mono (ps_setLc hc hN hy hyl hsw hi ok hg ht he hs) fun D' σ H ⟨mu, g, ρ, S, R, h⟩ => lc_ok hvs ⟨mu, g, ρ, S, R, (Wp.lift R h).mono fun mu1 g1 H1 d e1 S1 h1 v r => Wp.here S1 h1 _ ((R.ext e1).set i0 r)⟩
end

/-! ### a thing let go -/
section
variable {X : Cx} {W : WX} {ss : List Stmt} {F : FS}
theorem RE.keep {K : PySem.W.Frag} {own : Addr → Prop} {mu : List Addr} {H : Hp} {σ : L2.St} {ρ : Env'} (R : RE K own mu H σ ρ) {i : Nat} {v : V} {d : D} (hv : σ[i]? = some (some v)) (r : RV K own mu H v d) : RE K own mu H σ (ρ.set i (some d)) := by
  have h := R.set i r
  have e : σ.set i (some v) = σ := by
    refine List.ext_getElem? fun j => ?_
    by_cases hj : i = j
    · subst hj
      have hi : i < σ.length := (List.getElem?_eq_some_iff.mp hv).1
      rw [List.getElem?_set_self hi, hv]
    · rw [List.getElem?_set_ne hj]
  rwa [e] at h
theorem sss_frz {i : Nat} (h2 : PSs X ss (tS X.K W F)) : PSs X ss (tS X.K W fun ρ => fun g => seqS (liftS ρ (do
      let d ← optM (slot ρ i)
      frzM d) (fun d' => pure (.nx, ρ.set i (some d'))) g) F) := by
  refine ⟨fun pins s σ H D' I ⟨mu, g, ρ, S, R, h⟩ => ?_⟩
  have h1 := Wp.lift R (Wp.seq h)
  obtain ⟨d, hd, k⟩ := Wp.optB h1
  obtain ⟨v, hv, r⟩ := R.at_ i d (slot_some hd)
  unfold frzM at k
  split at k
  · rename_i n
    obtain ⟨q, rfl, hm⟩ := r.ref_inv
    split at k
    · rename_i xs hg
      obtain ⟨vs, hH, rs⟩ := S.at_ n _ q hg hm
      have E : Ext mu g H mu (g.set n .gone) H := Ext.gone hg rfl
      have S' := S.gone hg rfl hm
      have k2 := Wp.here S' (k _ _ E S')
      exact h2.run pins s σ H D' I (k2 σ ((R.ext E).keep hv (.lst (.inl ⟨nown_gone S hm, .inl hH⟩) (rs.ext E))))
    · rename_i ks ws hg
      obtain ⟨kvs, hH, r1, r2⟩ := S.at_ n _ q hg hm
      obtain ⟨od, I'⟩ := I.lock hH True.intro
      have E : Ext mu g H mu (g.set n .gone) (upd H q (.frz od (.dK kvs))) := Ext.set hg rfl hm
      have S' : Sim X.K mu (g.set n .gone) (upd H q (.frz od (.dK kvs))) := S.set hg rfl hm ⟨_, upd_same⟩
      have k2 := Wp.here S' (k _ _ E S')
      exact h2.run pins s σ _ D' I' (k2 σ ((R.ext E).keep hv (.dct (nown_gone S hm) upd_same (r1.ext E) (r2.ext E))))
    · rename_i C ns ws hg
      obtain ⟨dx, fs, hH, rfl, rs⟩ := S.at_ n _ q hg hm
      have E : Ext mu g H mu (g.set n .gone) H := Ext.gone hg rfl
      have S' := S.gone hg rfl hm
      have k2 := Wp.here S' (k _ _ E S')
      exact h2.run pins s σ H D' I (k2 σ ((R.ext E).keep hv (.obj (nown_gone S hm) hH (rs.ext E))))
    · exact k.elim
  · exact k.elim
end
end DL

set_option Elab.async false
set_option linter.all false
set_option maxRecDepth 100000
set_option maxHeartbeats 4000000
/-! the deep layer: what a body may lean on; calls -/
namespace DL
open PySem PySem.Spec PyProof.Rows L2

/-- the promise of a def by what it computes -/
def spD (K : PySem.W.Frag) (n : Nat) (m : List D → M D) : Sp := fun vs H Q E => vs.length = n ∧ ∃ mu g ds, Sim K mu g H ∧ RVs K (Own mu g) mu H vs ds ∧ Wp K E mu g H (m ds g) fun mu' g' H' d => ∀ v, RV K (Own mu' g') mu' H' v d → Q v H'
structure Cal (P : Program) (w : World) (K : PySem.W.Frag) (mg : Str → Option Value) (base : Heap) (k : Nat) (f : Str) (n : Nat) (m : List D → M D) : Prop where
  ex : ∃ fd ps, FnOk P w K mg base (L2.CX P w) k (He.ga K f) fd ps (spD K n m) ∧ Binds K fd ps []
  kp : PySem.W.keepIn K (.ref (He.ga K f)) = true
  gl : mg f = some (.ref (He.ga K f))
structure BaseOk (cf : Cf) (P : Program) (w : World) (K : PySem.W.Frag) (mg : Str → Option Value) (base : Heap) (A : Around) : Prop where
  call : ∀ f n, cf.ar f = some n → ∃ k, Room k A ∧ Cal P w K mg base k f n (cf.call f)
  glob : ∀ x d, cf.glob x = some d → ∃ u v, mg x = some u ∧ RelV v u ∧ ∀ own mu H, RV K own mu H v d
  kd : ∀ n z d, cf.kd n z = some d → ∃ v, KDct K w (He.ga K n) z v ∧ ∀ own mu H, RV K own mu H v d
  kt : ∀ n l, cf.kt n = some l → ∃ lv, KTab K w (He.ga K n) lv ∧ ∀ z, (∃ d v, l.lookup z = some d ∧ lv.lookup z = some v ∧ ∀ own mu H, RV K own mu H v d) ∨ (l.lookup z = none ∧ lv.lookup z = none)
  fld : ∀ C f, cf.fld C f = true → Cls K (He.ga K C) ∧ NoAttr K (He.ga K C) f
/-- what the checker sees of a body -/
structure SC where
  sc : Scope
  N : List Str
  fn : Str → Bool
  ar : List (Str × Nat)
  free : List Str
def SC.blk (S : SC) (scope : Scope) : SC := { S with sc := relS scope S.sc, fn := fun x => scope.names.lookup x == some .cell }
structure CtxOk (cf : Cf) (S : SC) (X : Cx) (W : WX) : Prop where
  b : BaseOk cf X.prog X.w X.K X.mg X.base X.A
  hu : X.A.units + 64 < cLine
  calm : X.calm = true
  nd : X.N.Nodup
  tk : Takes X W
  po : PassesOwn (model X.prog X.w) X.A X.env X.xe
  sc : X.env.scope = S.sc
  kind : X.env.scope.kind = .function
  N : X.N = S.N
  fn : ∀ x, S.fn x = true → X.fn x = true
  ar : ∀ f n, S.ar.lookup f = some n → cf.ar f = some n
  free : ∀ x, x ∈ S.free → X.mg x = none
theorem takes0 {X : Cx} : Takes X WN := fun _ _ x => by
  obtain ⟨_, _, _, _, _, _, _, _, _, _, _, _, _, _, _, _, z⟩ := x
  exact z.elim
section
variable {cf : Cf} {S : SC} {X : Cx} {W : WX}
theorem CtxOk.wn (c : CtxOk cf S X W) : CtxOk cf S X WN := ⟨c.b, c.hu, c.calm, c.nd, takes0, c.po, c.sc, c.kind, c.N, c.fn, c.ar, c.free⟩
theorem CtxOk.blk (c : CtxOk cf S X W) {scope : Scope} (hk : scope.kind = .function) (s : Shared) (H : Hp) (C : Addr) (cl : List (Str × Addr)) (fp : List Addr) : CtxOk cf (S.blk scope) (X.blk s H scope (compEnvC scope cl C X.env) fp) WN where
  b := c.b
  hu := c.hu
  calm := c.calm
  nd := c.nd
  tk := takes0
  po := PassesOwn.never
  sc := by
    show relS scope X.env.scope = relS scope S.sc
    rw [c.sc]
  kind := hk
  N := c.N
  fn := fun x h => h
  ar := c.ar
  free := c.free
end

section
variable {cf : Cf} {S : SC} {X : Cx} {W : WX} {e : Expr} {es : List Expr} {x : Str} {p pos : Pos} {Fs : Env' → M (List D)} {k n : Nat} {m : List D → M D}
/-- f(e, ..) -/
theorem s_call (c : Cal X.prog X.w X.K X.mg X.base k x n m) (hr : Room k X.A) (tk : Takes X W) (hl : ∀ ρ g ds g', Fs ρ g = .ok ds g' → ds.length = n) (hg : Gl X x) (ha : PA X (e :: es) (tA X.K W Fs)) (hdb : (x == ("__debug__" : Str)) = false)
    (he : starEach (e :: es) X.env = (false, eval e X.env) :: starEach es X.env) (hpl : (backTo pos (starEach es X.env)).any (·.1) = false) : PE X (.Call (.Name x p) (e :: es) [] pos) (tE X.K W fun ρ => do
    let ds ← Fs ρ
    m ds) := by
  obtain ⟨fd, ps, F, hb⟩ := c.ex
  refine pe_mono (pe_callS F hr hg c.gl c.kp hb (fun σ => passAt tk σ) ha hdb he hpl) fun σ H Q ⟨mu, g, ρ, S, R, h⟩ => ⟨mu, g, ρ, S, R, ?_⟩
  have h1 := Wp.bd h
  cases e0 : Fs ρ g with
  | bad => rw [e0] at h1; exact h1.elim
  | ex x g1 => rw [e0] at h1; exact h1
  | ok ds g1 =>
    rw [e0] at h1
    exact fun mu1 H1 e1 S1 vs rs => ⟨by rw [rs.length]; exact hl ρ g ds g1 e0, mu1, g1, ds, S1, rs, h1 mu1 H1 e1 S1⟩
/-- f() -/
theorem s_call0 (c : Cal X.prog X.w X.K X.mg X.base k x 0 m) (hr : Room k X.A) (tk : Takes X W) (hg : Gl X x) (hdb : (x == ("__debug__" : Str)) = false) : PE X (.Call (.Name x p) [] [] pos) (tE X.K W fun ρ => do
    let ds ← (pure [] : M (List D))
    m ds) := by
  obtain ⟨fd, ps, F, hb⟩ := c.ex
  refine ⟨fun pins s σ H Q I ⟨mu, g, ρ, S, R, h⟩ => ?_⟩
  refine wpAny_Call_Name_kw (ld_glob I hg c.gl ?_ hdb)
  exact PySem.W.callWith_K0 I.kIn c.kp (run_fnS (us := []) (E := WE W) F hr hb (passAt tk σ) I .nil ⟨rfl, mu, g, [], S, .nil, h⟩)
/-- v(e, ..), v a name that holds a def -/
theorem s_callv {i : Nat} {call : Str → List D → M D} {ar : Str → Option Nat} (c : ∀ f n, ar f = some n → ∃ k, Room k X.A ∧ Cal X.prog X.w X.K X.mg X.base k f n (call f)) (tk : Takes X W) (hl : ∀ ρ g ds g', Fs ρ g = .ok ds g' → ds.length = n) (hN : X.N[i]? = some x) (hv : Vis X.env.scope x) (ha : PA X (e :: es) (tA X.K W Fs)) (hdb : (x == ("__debug__" : Str)) = false) (hcd : (x == ("__classdict__" : Str)) = false)
    (he : starEach (e :: es) X.env = (false, eval e X.env) :: starEach es X.env) (hpl : (backTo pos (starEach es X.env)).any (·.1) = false) : PE X (.Call (.Name x p) (e :: es) [] pos) (tE X.K W fun ρ => do
    let f ← optM (slot ρ i)
    match f with
    | .fn x => do
      needM (ar x = some n)
      let ds ← Fs ρ
      call x ds
    | _ => M.bad) := by
  refine ⟨fun pins s σ H Q I ⟨mu, g, ρ, S, R, h⟩ => ?_⟩
  obtain ⟨d, hd, h1⟩ := Wp.optB h
  obtain ⟨v, hv0, r⟩ := R.at_ i d (slot_some hd)
  cases d with
  | fn f =>
    cases r
    obtain ⟨hf, h2⟩ := Wp.needI h1
    obtain ⟨k, hr, cc⟩ := c f n hf
    obtain ⟨fd, ps, F, hb⟩ := cc.ex
    refine wpAny_Call_Name_kw (thn ((pe_var (pos := p) hN hv hdb hcd).run pins s σ H (fun v H1 => v = .ref (He.ga X.K f) ∧ H1 = H) I ⟨_, hv0, rfl, rfl⟩) fun u s1 ⟨v, H1, I1, r1, q1⟩ => ?_)
    obtain ⟨rfl, rfl⟩ := q1
    cases r1
    have h3 := Wp.bd h2
    have q : tA X.K W Fs σ H1 fun vs H2 => spD X.K n (call f) vs H2 Q (WE W σ) := ⟨mu, g, ρ, S, R, by
      cases e0 : Fs ρ g with
      | bad => rw [e0] at h3; exact h3.elim
      | ex x g1 => rw [e0] at h3; exact h3
      | ok ds g1 =>
        rw [e0] at h3
        exact fun mu1 H1 e1 S1 vs rs => ⟨by rw [rs.length]; exact hl ρ g ds g1 e0, mu1, g1, ds, S1, rs, h3 mu1 H1 e1 S1⟩⟩
    refine PySem.W.callWith_K (h₀ := X.base) I.ok.mod.kin cc.kp (thn (ha.run pos pins s1 σ _ _ I1 q) fun us s2 ⟨vs, H2, I2, r, q⟩ => ⟨I2.kIn, ?_⟩) he hpl
    exact run_fnS F hr hb (passAt tk σ) I2 r q
  | _ => exact h1.elim
end

/-! ### defs -/
/-- the end of a body -/
def runB (r : R (Fl × Env')) : R D := match r with
  | .ok (.rt d, _) g => .ok d g
  | .ok (.nx, _) g => .ok .non g
  | .ok (.rs e, _) g => .ex e g
  | _ => .bad
def start0 (nn : Nat) (ds : List D) : Env' := ds.map some ++ List.replicate (nn - ds.length) none
theorem start_ok {K : PySem.W.Frag} {own : Addr → Prop} {mu : List Addr} {H : Hp} {N : List Str} {vs : List V} {ds : List D} (r : RVs K own mu H vs ds) : RE K own mu H (L2.start N vs) (start0 N.length ds) := by
  have hl := r.length
  refine ⟨?_, fun i d h => ?_⟩
  · unfold L2.start start0
    simp [hl]
  · unfold start0 at h
    unfold L2.start
    by_cases hi : i < ds.length
    · rw [List.getElem?_append_left (by simpa using hi), List.getElem?_map] at h
      rw [List.getElem?_append_left (by simpa [hl] using hi), List.getElem?_map]
      cases e : ds[i]? with
      | none => rw [e] at h; cases h
      | some d' =>
        rw [e] at h
        cases h
        obtain ⟨v, h1, h2⟩ := r.get e
        exact ⟨v, by rw [h1]; rfl, h2⟩
    · rw [List.getElem?_append_right (by simpa using hi)] at h
      rw [List.getElem?_replicate] at h
      split at h <;> cases h
theorem runB_ok {K : PySem.W.Frag} {E : XK} {Q : VK} {mu : List Addr} {g : G} {H : Hp} {r : R (Fl × Env')} (h : Wp K E mu g H (runB r) fun mu' g' H' d => ∀ v, RV K (Own mu' g') mu' H' v d → Q v H') :
    Wp K (fun _ _ _ => False) mu g H r (flEnd K (fun c d _ H => E c d H) { nx := fun _ H' => Q .non H', rt := Q }) := by
  unfold runB at h
  cases r with
  | bad => exact h.elim
  | ex e g' => exact h.elim
  | ok x g' =>
    obtain ⟨f, ρ⟩ := x
    intro mu' H' e' S'
    cases f with
    | nx => exact fun σ R => Wp.here (X := E) S' (Wp.ext e' h) _ .non
    | rt d => exact Wp.here (X := E) S' (Wp.ext e' h)
    | bk => exact h.elim
    | ct => exact h.elim
    | rs x => exact fun σ dx R xr => h mu' H' dx e' S' xr
end DL

set_option Elab.async false
set_option linter.all false
set_option maxRecDepth 100000
set_option maxHeartbeats 4000000
/-! the deep layer: the checker, what it sees of the text -/
namespace DL
open PySem PySem.Spec PyProof.Rows L2

/-! ### looks at the text -/
def visB (sc : Scope) (x : Str) : Bool := match sc.names.lookup x with
  | some .local => true
  | some .cell => true
  | some .free => true
  | _ => false
def locB (S : SC) (x : Str) : Bool := match S.sc.names.lookup x with
  | some .local => true
  | some .cell => S.fn x
  | _ => false
def glB (sc : Scope) (x : Str) : Bool := match sc.names.lookup x with
  | some .globalImplicit => true
  | _ => false
def nmB (x : Str) : Bool := !(x == ("__debug__" : Str)) && !(x == ("__classdict__" : Str))
def ixB : Expr → Bool
  | .Slice .. => false
  | _ => true
def abB : Expr → Bool
  | .Call (.Name id _) [] [] _ => id != ("super" : Str)
  | .Call _ [] [] _ => false
  | _ => true
def setB : Expr → Bool
  | .Set .. => true
  | _ => false
def starB : Expr → Bool
  | .Starred .. => true
  | _ => false
def compB : Expr → Bool
  | .ListComp .. => true
  | .SetComp .. => true
  | .DictComp .. => true
  | _ => false
section
variable {cf : Cf} {S : SC} {X : Cx} {W : WX} {x : Str} {a e : Expr} {es : List Expr}
theorem ba {a b : Bool} (h : (a && b) = true) : a = true ∧ b = true := Bool.and_eq_true_iff.mp h
theorem vis_ok (c : CtxOk cf S X W) (h : visB S.sc x = true) : Vis X.env.scope x := by
  unfold visB at h
  rw [c.sc]
  split at h
  · exact .inl (by assumption)
  · exact .inr (.inl (by assumption))
  · exact .inr (.inr (by assumption))
  · cases h
theorem loc_ok (c : CtxOk cf S X W) (h : locB S x = true) : Loc X.env.scope x ∧ (X.fn x = true ∨ X.env.scope.names.lookup x = some .local) := by
  unfold locB at h
  rw [c.sc]
  split at h
  · rename_i e
    exact ⟨.inl e, .inr e⟩
  · rename_i e
    exact ⟨.inr e, .inl (c.fn x h)⟩
  · cases h
theorem gl_ok (c : CtxOk cf S X W) (h : glB S.sc x = true) : Gl X x := by
  unfold glB at h
  show X.env.scope.names.lookup x = _
  rw [c.sc]
  split at h
  · assumption
  · cases h
theorem nm_ok (h : nmB x = true) : (x == ("__debug__" : Str)) = false ∧ (x == ("__classdict__" : Str)) = false := by
  obtain ⟨h1, h2⟩ := ba h
  exact ⟨Bool.not_eq_true' _ |>.mp h1, Bool.not_eq_true' _ |>.mp h2⟩
theorem ix_plain (h : ixB e = true) : PlainIx e := fun _ _ => by cases e <;> first | rfl | cases h
theorem ab_ok {f : Str} {env : Env} {whole : Sem Value} (h : abB e = true) : attributeBase e f env whole = whole := by
  cases e with
  | Call g args kws p =>
    cases args with
    | nil =>
      cases kws with
      | nil =>
        cases g with
        | Name id q => exact abase_call h
        | _ => cases h
      | cons _ _ => cases g <;> rfl
    | cons _ _ => cases g <;> rfl
  | _ => rfl
theorem set_no {op : CmpOp} (h : setB e = false) : behindInMarks op e = false := by cases e <;> first | rfl | cases h
theorem fold_no {env : Env} (h : setB e = false) (v : Value) : foldedSetIterable e env v = pure v := by cases e <;> first | rfl | cases h
theorem star_cons {env : Env} (h : starB a = false) : starEach (a :: es) env = (false, eval a env) :: starEach es env := by cases a <;> first | rfl | cases h
theorem asg_cons {env : Env} (h : starB a = false) : assignEach (a :: es) env = (false, assign a env) :: assignEach es env := by cases a <;> first | rfl | cases h
theorem star_all {env : Env} : ∀ {es : List Expr}, es.all (fun e => !starB e) = true → ∀ pos, (backTo pos (starEach es env)).all (fun x => !x.1) = true
  | [], _, _ => rfl
  | a :: es, h, pos => by
    obtain ⟨h1, h2⟩ := ba h
    rw [star_cons (Bool.not_eq_true' _ |>.mp h1)]
    exact star_all h2 pos
theorem star_any {env : Env} {es : List Expr} (h : es.all (fun e => !starB e) = true) (pos : Pos) : (backTo pos (starEach es env)).any (·.1) = false := by
  have := star_all (env := env) h pos
  rw [List.all_eq_not_any_not] at this
  simpa using this
theorem asg_all {env : Env} : ∀ {es : List Expr}, es.all (fun e => !starB e) = true → (assignEach es env).length = es.length ∧ (assignEach es env).findIdx? (·.1) = none
  | [], _ => ⟨rfl, rfl⟩
  | a :: es, h => by
    obtain ⟨h1, h2⟩ := ba h
    rw [asg_cons (Bool.not_eq_true' _ |>.mp h1)]
    obtain ⟨q1, q2⟩ := asg_all (env := env) h2
    refine ⟨by simp [q1], ?_⟩
    rw [List.findIdx?_cons]
    simp [q2]
theorem swap_no {t : Option Expr} {l : Nat} {env : Env} (h : compB e = false) : swapsWith e t l env = pure false := by cases e <;> first | rfl | cases h
/-- what a comparison's test says -/
theorem isTrue_def {env : Env} (h : (match e with | .UnaryOp .Not .. => false | .BoolOp .. => false | .IfExp .. => false | .Compare .. => false | _ => true) = true) (whole : Sem Value) : isTrue e env whole = (do let v ← whole; standAt e.pos; holding [v] (truthy v)) := by
  cases e with
  | UnaryOp op _ _ => cases op <;> first | rfl | cases h
  | _ => first | rfl | cases h
end

/-! ### stores that are swapped -/
def swNames (sc : Scope) (line : Nat) (ts : List Expr) : List Str := ts.filterMap fun
  | .Name id pos => if sc.names.lookup id == some .local && pos.line == line then some id else none
  | _ => none
/-- none: not swapped; some: these names -/
def swB (sc : Scope) (ts vs : List Expr) : Option (Option (List Str)) :=
  if !(ts.length == 2 || ts.length == 3) || vs.length != ts.length then some none
  else if vs.any starB then some none
  else
    let names := swNames sc ((ts.head?.map (·.pos.line)).getD 0) ts
    if names.length != ts.length || names.eraseDups.length != names.length then some none
    else if vs.all (foldedForSure 8) then some none
    else if vs.all (constantsAlone 8) then none
    else some (some names)
theorem swap_eq {ts vs : List Expr} {k k2 : Nat} {p p2 : Pos} {env : Env} : swappedStores [.Tuple ts k p] (.Tuple vs k2 p2) env =
    if ((!(ts.length == 2 || ts.length == 3) || vs.length != ts.length) || env.blockKind != .function) = true then pure none
    else if vs.any starB = true then pure none
    else if ((swNames env.scope ((ts.head?.map (·.pos.line)).getD 0) ts).length != ts.length || (swNames env.scope ((ts.head?.map (·.pos.line)).getD 0) ts).eraseDups.length != (swNames env.scope ((ts.head?.map (·.pos.line)).getD 0) ts).length) = true then pure none
    else if vs.all (foldedForSure 8) = true then pure none
    else if vs.all (constantsAlone 8) = true then (do
      let _ ← (unsupported "assign.tuple-of-constant-expressions:order-of-the-stores" : Sem PUnit)
      pure (some (swNames env.scope ((ts.head?.map (·.pos.line)).getD 0) ts)))
    else pure (some (swNames env.scope ((ts.head?.map (·.pos.line)).getD 0) ts)) := rfl
theorem swap_tup {ts vs : List Expr} {k k2 : Nat} {p p2 : Pos} {env : Env} {sc : Scope} {r : Option (List Str)} (hsc : env.scope = sc) (hk : env.scope.kind = .function) (h : swB sc ts vs = some r) : swappedStores [.Tuple ts k p] (.Tuple vs k2 p2) env = pure r := by
  have hb : env.blockKind = .function := by unfold Env.blockKind; rw [hk]; rfl
  rw [swap_eq, hb, hsc]
  unfold swB at h
  by_cases c1 : (!(ts.length == 2 || ts.length == 3) || vs.length != ts.length) = true
  · rw [if_pos c1] at h
    cases h
    rw [if_pos (by rw [c1]; rfl)]
  · rw [if_neg c1] at h
    have c1' : (!(ts.length == 2 || ts.length == 3) || vs.length != ts.length) = false := by simpa using c1
    rw [if_neg (by rw [c1']; decide)]
    by_cases c2 : vs.any starB = true
    · rw [if_pos c2] at h
      cases h
      rw [if_pos c2]
    · rw [if_neg c2] at h
      rw [if_neg c2]
      simp only at h
      generalize swNames sc ((ts.head?.map (·.pos.line)).getD 0) ts = names at h ⊢
      by_cases c3 : (names.length != ts.length || names.eraseDups.length != names.length) = true
      · rw [if_pos c3] at h
        cases h
        rw [if_pos c3]
      · rw [if_neg c3] at h
        rw [if_neg c3]
        by_cases c4 : vs.all (foldedForSure 8) = true
        · rw [if_pos c4] at h
          cases h
          rw [if_pos c4]
        · rw [if_neg c4] at h
          rw [if_neg c4]
          by_cases c5 : vs.all (constantsAlone 8) = true
          · rw [if_pos c5] at h
            cases h
          · rw [if_neg c5] at h
            cases h
            rw [if_neg c5]
/-- no swapping of stores -/
def noSwB (sc : Scope) (tg a : Expr) : Bool := match tg, a with
  | .Tuple ts _ _, .Tuple vs _ _ => match swB sc ts vs with
    | some none => true
    | _ => false
  | .List .., _ => false
  | _, _ => true
theorem noSw_ok {tg a : Expr} {env : Env} {sc : Scope} (hsc : env.scope = sc) (hk : env.scope.kind = .function) (h : noSwB sc tg a = true) : swappedStores [tg] a env = pure none := by
  unfold noSwB at h
  split at h
  · split at h
    · exact swap_tup hsc hk (by assumption)
    · cases h
  · cases h
  · rename_i h1 h2
    cases tg with
    | Tuple ts k p =>
      cases a with
      | Tuple vs k2 p2 => exact (h2 _ _ _ _ _ _ rfl rfl).elim
      | _ => rfl
    | List ts p => exact (h1 _ _ rfl).elim
    | _ => cases a <;> rfl
end DL

set_option Elab.async false
set_option linter.all false
set_option maxRecDepth 100000
set_option maxHeartbeats 4000000
/-! the deep layer: the checker -/
namespace DL
open PySem PySem.Spec PyProof.Rows L2

def tyN' : Ty → Str
  | .bool => "bool" | .int => "int" | .str => "str" | .tuple => "tuple" | .list => "list" | .dict => "dict"
def biN : Bi → Str
  | .len => "len" | .tuple => "tuple" | .list _ => "list" | .min2 => "min" | .max2 => "max" | .abs => "abs" | .all => "all" | .any => "any" | .sum => "sum" | .sortI _ => "sorted" | .strI => "str"
def mtN : Mt → Str
  | .append => "append" | .get => "get" | .join => "join" | .pop => "pop"
/-- a built-in name -/
def bltB (S : SC) (x y : Str) : Bool := decide (x = y) && glB S.sc x && S.free.contains x
def tysB (S : SC) : List Ty → List Expr → Bool
  | [], [] => true
  | t :: ts, .Name x _ :: es => bltB S x (tyN' t) && tysB S ts es
  | _, _ => false
def ownP (S : SC) (own : List Nat) : List (Str × Nat) := own.map fun i => (S.N.getD i "", i)
mutual
def tgV : Tg → List Nat
  | .v i => [i]
  | .tup ts => tgsV ts
  | _ => []
def tgsV : Tgs → List Nat
  | .nil => []
  | .cons t ts => tgV t ++ tgsV ts
end
mutual
def okE (S : SC) : E → Expr → Bool
  | .v i, ex => (match ex with
    | .Name x _ => decide (S.N[i]? = some x) && (visB S.sc x && nmB x)
    | _ => false)
  | .non, ex => (match ex with
    | .Constant .none _ _ => true
    | _ => false)
  | .bl b, ex => (match ex with
    | .Constant (.bool c) _ _ => b == c
    | _ => false)
  | .int i, ex => (match ex with
    | .Constant (.int j) _ _ => decide (i = j)
    | _ => false)
  | .str x, ex => (match ex with
    | .Constant (.str y) _ _ => decide (x = y)
    | _ => false)
  | .gl x, ex => (match ex with
    | .Name y _ => decide (x = y) && (glB S.sc y && nmB y)
    | _ => false)
  | .tup es, ex => (match ex with
    | .Tuple xs _ _ => okEs S es xs
    | _ => false)
  | .lst _ es, ex => (match ex with
    | .List xs _ => okEs S es xs
    | _ => false)
  | .dct _ ps, ex => (match ex with
    | .Dict ks vs _ => okPs S ps ks vs && decide (ks.length ≤ 15)
    | _ => false)
  | .bin op a b, ex => (match ex with
    | .BinOp x o y _ => decide (o = pyOp op) && (okE S a x && okE S b y)
    | _ => false)
  | .neg a, ex => (match ex with
    | .UnaryOp .USub x _ => okE S a x
    | _ => false)
  | .not a, ex => (match ex with
    | .UnaryOp .Not x _ => okE S a x
    | _ => false)
  | .and es, ex => (match ex with
    | .BoolOp .And xs _ => okEs S es xs && !xs.isEmpty
    | _ => false)
  | .or es, ex => (match ex with
    | .BoolOp .Or xs _ => okEs S es xs && !xs.isEmpty
    | _ => false)
  | .cmp op a b, ex => (match ex with
    | .Compare x [o] [y] _ => decide (o = pyCp op) && (!setB y && (okE S a x && okE S b y))
    | _ => false)
  | .cmp2 op op' a b c, ex => (match ex with
    | .Compare x [o, o'] [y, z] _ => (decide (o = pyCp op) && decide (o' = pyCp op')) && (!setB z && (okE S a x && (okE S b y && okE S c z)))
    | _ => false)
  | .isn a, ex => (match ex with
    | .Compare x [.Is] [.Constant .none _ _] _ => okE S a x
    | _ => false)
  | .notn a, ex => (match ex with
    | .Compare x [.IsNot] [.Constant .none _ _] _ => okE S a x
    | _ => false)
  | .ite c a b, ex => (match ex with
    | .IfExp t x y _ => okE S c t && (okE S a x && okE S b y)
    | _ => false)
  | .ix a b, ex => (match ex with
    | .Subscript x y _ => ixB y && (okE S a x && okE S b y)
    | _ => false)
  | .sl a lo hi, ex => (match ex with
    | .Subscript x (.Slice l h none _) _ => okE S a x && (okPart S lo l && okPart S hi h)
    | _ => false)
  | .fld a f, ex => (match ex with
    | .Attribute x g _ => decide (f = g) && (abB x && okE S a x)
    | _ => false)
  | .call f es, ex => (match ex with
    | .Call (.Name x _) xs [] _ => decide (f = x) && ((glB S.sc x && nmB x) && (okEs S es xs && decide (S.ar.lookup x = some es.len)))
    | _ => false)
  | .callv i es, ex => (match ex with
    | .Call (.Name x _) (y :: xs) [] _ => decide (S.N[i]? = some x) && ((visB S.sc x && nmB x) && okEs S es (y :: xs))
    | _ => false)
  | .bi b es, ex => (match ex with
    | .Call (.Name x _) (y :: xs) [] _ => bltB S x (biN b) && okEs S es (y :: xs)
    | _ => false)
  | .mt m o es, ex => (match ex with
    | .Call (.Attribute x f apos) xs [] cpos => decide (f = mtN m) && ((abB x && apos.endLine == cpos.line) && (decide (xs.length < 29) && (okE S o x && okEs S es xs)))
    | _ => false)
  | .isi a ts many, ex => (match ex with
    | .Call (.Name x _) [y, t] [] _ => bltB S x "isinstance" && (!starB y && (okE S a y && (match many, t with
    | false, _ => !starB t && tysB S ts [t]
    | true, .Tuple tes _ _ => tysB S ts tes && (!ts.isEmpty && decide (ts.length ≤ 30))
    | true, _ => false)))
    | _ => false)
  | .lc _ own elt t it ifs, ex => (match ex with
    | .ListComp x [⟨tg, iter, fs, 0⟩] scope _ => (okI S it tg iter && !setB iter) && ((blkC S.N S.sc scope (ownP S own) && decide (scope.kind = .function)) &&
      ((okTg (S.blk scope) t tg && (tgV t).all fun i => own.contains i) && (okIfs (S.blk scope) ifs fs && okE (S.blk scope) elt x)))
    | _ => false)
  | .kget o es, ex => (match ex with
    | .Call (.Attribute x f apos) (y :: xs) [] cpos => decide (f = ("get" : Str)) && ((abB x && apos.endLine == cpos.line) && (decide (xs.length < 28) && (okE S o x && okEs S es (y :: xs))))
    | _ => false)
  | .bad, _ => true
  | _, _ => false
def okEs (S : SC) : Es → List Expr → Bool
  | .nil, [] => true
  | .cons e es, x :: xs => !starB x && (okE S e x && okEs S es xs)
  | _, _ => false
def okIfs (S : SC) : Es → List Expr → Bool
  | .nil, [] => true
  | .cons e .nil, [x] => okE S e x
  | _, _ => false
def okPart (S : SC) : Es → Option Expr → Bool
  | .nil, none => true
  | .cons e .nil, some x => okE S e x
  | _, _ => false
def okPs (S : SC) : Ps → List (Option Expr) → List Expr → Bool
  | .nil, [], [] => true
  | .cons k v ps, some x :: xs, y :: ys => okE S k x && (okE S v y && okPs S ps xs ys)
  | _, _, _ => false
def okTg (S : SC) : Tg → Expr → Bool
  | .v i, ex => (match ex with
    | .Name x _ => decide (S.N[i]? = some x) && locB S x
    | _ => false)
  | .tup ts, ex => (match ex with
    | .Tuple xs _ _ => okTgs S ts xs
    | _ => false)
  | .ix a b, ex => (match ex with
    | .Subscript x y _ => ixB y && (okE S a x && okE S b y)
    | _ => false)
  | _, _ => false
def okTgs (S : SC) : Tgs → List Expr → Bool
  | .nil, [] => true
  | .cons t ts, x :: xs => !starB x && (okTg S t x && okTgs S ts xs)
  | _, _ => false
def okI (S : SC) : I → Expr → Expr → Bool
  | .e a, _, x => okE S a x
  | .rng1 a, _, ex => (match ex with
    | .Call (.Name x _) [y] [] _ => bltB S x "range" && (!starB y && okE S a y)
    | _ => false)
  | .rng2 a b, _, ex => (match ex with
    | .Call (.Name x _) [y, z] [] _ => bltB S x "range" && ((!starB y && !starB z) && (okE S a y && okE S b z))
    | _ => false)
  | .enum a, tg, ex => (match tg, ex with
    | .Tuple .., .Call (.Name x _) [y] [] _ => bltB S x "enumerate" && (!starB y && okE S a y)
    | _, _ => false)
  | .zip a b, tg, ex => (match tg, ex with
    | .Tuple .., .Call (.Name x _) [y, z] [] _ => bltB S x "zip" && ((!starB y && !starB z) && (okE S a y && okE S b z))
    | _, _ => false)
  | .items a, tg, ex => (match tg, ex with
    | .Tuple .., .Call (.Attribute x f apos) [] [] cpos => decide (f = "items") && ((abB x && apos.endLine == cpos.line) && okE S a x)
    | _, _ => false)
  | .vals a, _, ex => (match ex with
    | .Call (.Attribute x f apos) [] [] cpos => decide (f = "values") && ((abB x && apos.endLine == cpos.line) && okE S a x)
    | _ => false)
end
def augB : Op2 → Operator → Bool
  | .add, .Add => true
  | .sub, .Sub => true
  | _, _ => false
/-- name = [comprehension], stored within -/
def swLc (S : SC) (x : Str) (py : Pos) (scope : Scope) (pos : Pos) : Bool := (S.sc.names.lookup x == some .local && py.line == pos.line) && !(scope.names.any fun (n, k) => n == x && (k == .local || k == .cell))
def fldB (S : SC) (o : E) (f : Str) (a : E) (ex : Stmt) : Bool := match ex with
  | .Assign [.Attribute x g _] y _ => decide (f = g) && (!compB y && (okE S o x && okE S a y))
  | _ => false
def asgB (S : SC) (t : Tg) (a : E) (ex : Stmt) : Bool := match ex with
  | .Assign [tg] y _ => okTg S t tg && (okE S a y && ((!starB tg && noSwB S.sc tg y) && (match tg, y with
    | .Name x py, .ListComp _ _ scope p => if swLc S x py scope p then (match t, a with
        | .v _, .lc .. => S.sc.names.lookup x == some .local
        | _, _ => false) else true
    | .Name .., y => !compB y
    | _, _ => true)))
    | _ => false
mutual
def okS (S : SC) : DL.S → Stmt → Bool
  | .ex a, ex => (match ex with
    | .Expr x _ => !compB x && okE S a x
    | _ => false)
  | .ret a, ex => (match ex with
    | .Return (some x) _ => okE S a x
    | _ => false)
  | .retn, ex => (match ex with
    | .Return none _ => true
    | _ => false)
  | .asg (.fld o f) a, ex => fldB S o f a ex
  | .asg t a, ex => asgB S t a ex
  | .par is es, ex => (match ex with
    | .Assign [.Tuple ts _ _] (.Tuple vs _ _) _ => okEs S es vs && (match is, ts, vs with
    | [i, j], [.Name x px, .Name y py], [_, _] => ((decide (S.N[i]? = some x) && decide (S.N[j]? = some y)) && decide (i ≠ j)) && ((S.sc.names.lookup x == some .local && S.sc.names.lookup y == some .local) && decide (swB S.sc [.Name x px, .Name y py] vs = some (some [x, y])))
    | [i, j, l], [.Name x px, .Name y py, .Name z pz], [_, _, _] => (((decide (S.N[i]? = some x) && decide (S.N[j]? = some y)) && decide (S.N[l]? = some z)) && (decide (i ≠ j) && (decide (i ≠ l) && decide (j ≠ l)))) &&
        ((S.sc.names.lookup x == some .local && (S.sc.names.lookup y == some .local && S.sc.names.lookup z == some .local)) && decide (swB S.sc [.Name x px, .Name y py, .Name z pz] vs = some (some [x, y, z])))
    | _, _, _ => false)
    | _ => false)
  | .augv i op a, ex => (match ex with
    | .AugAssign (.Name x _) o y _ => decide (S.N[i]? = some x) && (locB S x && (augB op o && okE S a y))
    | _ => false)
  | .iff c a b, ex => (match ex with
    | .If x xs ys _ => okE S c x && (okSs S a xs && okSs S b ys)
    | _ => false)
  | .forr t it b, ex => (match ex with
    | .For tg iter xs [] _ => (okTg S t tg && (okI S it tg iter && !setB iter)) && okSs S b xs
    | _ => false)
  | .whl c b, ex => (match ex with
    | .While x xs [] _ => okE S c x && okSs S b xs
    | _ => false)
  | .brk, ex => (match ex with
    | .Break _ => true
    | _ => false)
  | .cnt, ex => (match ex with
    | .Continue _ => true
    | _ => false)
  | .pas, ex => (match ex with
    | .Pass _ => true
    | _ => false)
  | .bad, _ => true
  | _, _ => false
def okSs (S : SC) : Ss → List Stmt → Bool
  | .nil, [] => true
  | .cons (.frz _) ss, xs => okSs S ss xs
  | .cons s ss, x :: xs => okS S s x && okSs S ss xs
  | _, _ => false
end
end DL

set_option Elab.async false
set_option linter.all false
set_option maxRecDepth 100000
set_option maxHeartbeats 4000000
/-! the deep layer: the checker is right: expressions -/
namespace DL
open PySem PySem.Spec PyProof.Rows L2

section
variable {α : Type}
theorem evT_not (cf : Cf) (a : E) : evT cf (.not a) = (fun ρ => do
    let b ← evT cf a ρ
    pure (!b)) := by
  funext ρ g
  simp only [evT, evTM, evE, bind_def]
  cases evE cf a ρ g with
  | ok d g1 =>
    simp only [R.bind, bind_def, rdM]
    cases truD (rd g1 d) <;> rfl
  | _ => rfl
theorem evT_cmp (cf : Cf) (op : Cp) (a b : E) : evT cf (.cmp op a b) = (fun ρ => do
    let x ← evE cf a ρ
    let y ← evE cf b ρ
    let x ← rdM x
    let y ← rdM y
    optM (cmpD op x y)) := by
  funext ρ g
  simp only [evT, evTM, evE, bind_def]
  cases evE cf a ρ g with
  | ok d g1 =>
    simp only [R.bind, bind_def, rdM]
    cases evE cf b ρ g1 with
    | ok e g2 =>
      simp only [R.bind, bind_def, rdM]
      cases cmpD op (rd g2 d) (rd g2 e) <;> rfl
    | _ => rfl
  | _ => rfl
theorem evT_cmp2 (cf : Cf) (op op' : Cp) (a b c : E) : evT cf (.cmp2 op op' a b c) = (fun ρ => do
    let x ← evE cf a ρ
    let y ← evE cf b ρ
    let x' ← rdM x
    let y' ← rdM y
    let k ← optM (cmpD op x' y')
    if k then do
      let z ← evE cf c ρ
      let y' ← rdM y
      let z' ← rdM z
      optM (cmpD op' y' z')
    else pure false) := by
  funext ρ g
  simp only [evT, evTM, evE, bind_def]
  cases evE cf a ρ g with
  | ok d g1 =>
    simp only [R.bind, bind_def, rdM]
    cases evE cf b ρ g1 with
    | ok e g2 =>
      simp only [R.bind, bind_def, rdM]
      cases cmpD op (rd g2 d) (rd g2 e) with
      | none => rfl
      | some k =>
        cases k with
        | false => rfl
        | true =>
          simp only [optM, pure_def, R.bind, if_true, bind_def]
          cases evE cf c ρ g2 with
          | ok z g3 =>
            simp only [R.bind, bind_def, rdM]
            cases cmpD op' (rd g3 e) (rd g3 z) <;> rfl
          | _ => rfl
    | _ => rfl
  | _ => rfl
theorem evT_isn (cf : Cf) (a : E) : evT cf (.isn a) = (fun ρ => do
    let x ← evE cf a ρ
    match x with
    | .non => pure true
    | _ => pure false) := by
  funext ρ g
  simp only [evT, evTM, evE, bind_def]
  cases evE cf a ρ g with
  | ok d g1 => cases d <;> rfl
  | _ => rfl
theorem evT_notn (cf : Cf) (a : E) : evT cf (.notn a) = (fun ρ => do
    let x ← evE cf a ρ
    match x with
    | .non => pure false
    | _ => pure true) := by
  funext ρ g
  simp only [evT, evTM, evE, bind_def]
  cases evE cf a ρ g with
  | ok d g1 => cases d <;> rfl
  | _ => rfl
theorem evT_ite (cf : Cf) (c a b : E) : evT cf (.ite c a b) = (fun ρ => do
    let k ← evT cf c ρ
    if k then evT cf a ρ else evT cf b ρ) := by
  funext ρ g
  simp only [evT, evTM, evE, bind_def]
  cases evE cf c ρ g with
  | ok d g1 =>
    simp only [R.bind, bind_def, rdM]
    cases truD (rd g1 d) with
    | none => rfl
    | some k => cases k <;> rfl
  | _ => rfl
theorem evE_ite (cf : Cf) (c a b : E) : evE cf (.ite c a b) = (fun ρ => do
    let k ← evT cf c ρ
    if k then evE cf a ρ else evE cf b ρ) := by
  funext ρ g
  simp only [evT, evTM, evE, bind_def]
  cases evE cf c ρ g <;> rfl
theorem evT_and (cf : Cf) (e e2 : E) (es : Es) : evTM (evAnd cf (.cons e (.cons e2 es))) = (fun ρ => do
    let k ← evT cf e ρ
    if k then evTM (evAnd cf (.cons e2 es)) ρ else pure false) := by
  funext ρ g
  have h : evAnd cf (.cons e (.cons e2 es)) ρ = (do
    let x ← evE cf e ρ
    let y ← rdM x
    let b ← optM (truD y)
    if b then evAnd cf (.cons e2 es) ρ else pure x) := by simp only [evAnd]
  simp only [evT, evTM, bind_def, h]
  cases evE cf e ρ g with
  | ok d g1 =>
    simp only [R.bind, bind_def, rdM]
    cases ht : truD (rd g1 d) with
    | none => rfl
    | some k =>
      cases k with
      | true => rfl
      | false => simp only [optM, pure_def, R.bind, Bool.false_eq_true, if_false, bind_def, rdM, ht]
  | _ => rfl
theorem evT_or (cf : Cf) (e e2 : E) (es : Es) : evTM (evOr cf (.cons e (.cons e2 es))) = (fun ρ => do
    let k ← evT cf e ρ
    if k then pure true else evTM (evOr cf (.cons e2 es)) ρ) := by
  funext ρ g
  have h : evOr cf (.cons e (.cons e2 es)) ρ = (do
    let x ← evE cf e ρ
    let y ← rdM x
    let b ← optM (truD y)
    if b then pure x else evOr cf (.cons e2 es) ρ) := by simp only [evOr]
  simp only [evT, evTM, bind_def, h]
  cases evE cf e ρ g with
  | ok d g1 =>
    simp only [R.bind, bind_def, rdM]
    cases ht : truD (rd g1 d) with
    | none => rfl
    | some k =>
      cases k with
      | false => rfl
      | true => simp only [optM, pure_def, R.bind, if_true, bind_def, rdM, ht]
  | _ => rfl
theorem evIfs_one (cf : Cf) (e : E) : evIfs cf (.cons e .nil) = evT cf e := by
  funext ρ g
  simp only [evIfs, evT, evTM, bind_def]
  cases evE cf e ρ g with
  | ok d g1 =>
    simp only [R.bind, bind_def, rdM]
    cases ht : truD (rd g1 d) with
    | none => rfl
    | some k => cases k <;> rfl
  | _ => rfl
theorem evEs_len {cf : Cf} : ∀ {es : Es} {ρ : Env'} {g g' : G} {ds : List D}, evEs cf es ρ g = .ok ds g' → ds.length = es.len
  | .nil, ρ, g, g', ds, h => by
    simp only [evEs, pure_def] at h
    cases h
    rfl
  | .cons e es, ρ, g, g', ds, h => by
    simp only [evEs, bind_def] at h
    cases h1 : evE cf e ρ g with
    | ok d g1 =>
      rw [h1] at h
      simp only [R.bind, bind_def] at h
      cases h2 : evEs cf es ρ g1 with
      | ok ds' g2 =>
        rw [h2] at h
        simp only [R.bind, pure_def] at h
        cases h
        simp only [List.length_cons, Es.len]
        rw [evEs_len h2]
      | _ => rw [h2] at h; cases h
    | _ => rw [h1] at h; cases h
end

def OkE (cf : Cf) (e : E) : Prop := ∀ (S : SC) (X : Cx) (W : WX) (ex : Expr), CtxOk cf S X W → okE S e ex = true → PE X ex (tE X.K W (evE cf e)) ∧ PT X ex (tT X.K W (evT cf e))
structure OkEsP (cf : Cf) (es : Es) (S : SC) (X : Cx) (W : WX) : Prop where
  pa : ∀ xs, okEs S es xs = true → PA X xs (tA X.K W (evEs cf es))
  an : ∀ xs pos, okEs S es xs = true → xs ≠ [] → PE X (.BoolOp .And xs pos) (tE X.K W (evAnd cf es)) ∧ PW X (.BoolOp .And xs pos) (tT X.K W (evTM (evAnd cf es)))
  orr : ∀ xs pos, okEs S es xs = true → xs ≠ [] → PE X (.BoolOp .Or xs pos) (tE X.K W (evOr cf es)) ∧ PW X (.BoolOp .Or xs pos) (tT X.K W (evTM (evOr cf es)))
  ifs : ∀ xs, okIfs S es xs = true → PTs X xs (tT X.K W (evIfs cf es))
  po : ∀ x, okPart S es x = true → PO X x (tP X.K W (evPart cf es))
def OkEs (cf : Cf) (es : Es) : Prop := ∀ (S : SC) (X : Cx) (W : WX), CtxOk cf S X W → OkEsP cf es S X W
def OkPs (cf : Cf) (ps : Ps) : Prop := ∀ (S : SC) (X : Cx) (W : WX) (pos : Pos) (ks : List (Option Expr)) (vs : List Expr), CtxOk cf S X W → okPs S ps ks vs = true → PQ X pos ks vs (tQ X.K W (evPs cf ps)) ∧ ks.all (·.isSome) = true ∧ ks.length = vs.length
def OkTg (cf : Cf) (t : Tg) : Prop := ∀ (S : SC) (X : Cx) (W : WX) (tg : Expr), CtxOk cf S X W → okTg S t tg = true → PG X tg (tG X.K (tgV t) (asgT cf t))
def OkTgs (cf : Cf) (ts : Tgs) : Prop := ∀ (S : SC) (X : Cx) (W : WX) (tgs : List Expr), CtxOk cf S X W → okTgs S ts tgs = true → PGs X tgs (tGs X.K (tgsV ts) (asgTs cf ts)) ∧ (assignEach tgs X.env).length = ts.len ∧ (assignEach tgs X.env).findIdx? (·.1) = none
def OkI (cf : Cf) (i : I) : Prop := ∀ (S : SC) (X : Cx) (W : WX) (tg it : Expr), CtxOk cf S X W → okI S i tg it = true → PI X tg it (tIt X.K W (evI cf i))

section
variable {cf : Cf} {S : SC} {X : Cx} {W : WX}
theorem okEs_star {es : Es} {xs : List Expr} (h : okEs S es xs = true) : xs.all (fun e => !starB e) = true := by
  induction xs generalizing es with
  | nil => rfl
  | cons x xs ih =>
    cases es with
    | nil => simp [okEs] at h
    | cons e es =>
      simp only [okEs, Bool.and_eq_true] at h
      simp only [List.all_cons, Bool.and_eq_true]
      exact ⟨h.1, ih h.2.2⟩
theorem okEs_len {es : Es} {xs : List Expr} (h : okEs S es xs = true) : es.len = xs.length := by
  induction xs generalizing es with
  | nil => cases es <;> simp [okEs] at h; rfl
  | cons x xs ih =>
    cases es with
    | nil => simp [okEs] at h
    | cons e es =>
      simp only [okEs, Bool.and_eq_true] at h
      simp only [Es.len, List.length_cons, ih h.2.2]
theorem all_star {x : Expr} {xs : List Expr} (h : (x :: xs).all (fun e => !starB e) = true) : starB x = false ∧ xs.all (fun e => !starB e) = true := by
  simp only [List.all_cons, Bool.and_eq_true, Bool.not_eq_true'] at h
  exact h
/-- a test by its value -/
theorem pt_of {e : E} {ex : Expr} (h : PE X ex (tE X.K W (evE cf e))) (hd : ∀ env whole, isTrue ex env whole = (do let v ← whole; standAt ex.pos; holding [v] (truthy v))) : PE X ex (tE X.K W (evE cf e)) ∧ PT X ex (tT X.K W (evT cf e)) :=
  ⟨h, st_tru (hd X.env) h⟩
theorem pt_if {c a b : Expr} {pos : Pos} {Tc Ta Tb : Env' → M Bool} (hc : PT X c (tT X.K W Tc)) (ha : PT X a (tT X.K W Ta)) (hb : PT X b (tT X.K W Tb)) : PT X (.IfExp c a b pos) (tT X.K W fun ρ => do
    let k ← Tc ρ
    if k then Ta ρ else Tb ρ) := ⟨fun pins s σ H Q I ⟨mu, g, ρ, S, R, h⟩ => by
  show wpAny (model X.prog X.w) X.A (isTrue c X.env (eval c X.env) >>= fun k => if k = true then isTrue a X.env (eval a X.env) else isTrue b X.env (eval b X.env)) _ _ _
  refine wpAny_bind (thn (hc.run pins s σ H (fun k H1 => if k = true then tT X.K W Ta σ H1 Q else tT X.K W Tb σ H1 Q) I ⟨mu, g, ρ, S, R, (Wp.bd h).mono fun mu1 g1 H1 k e1 S1 h1 => ?_⟩) fun k s1 ⟨H1, I1, q1⟩ => ?_)
  · cases k with
    | true => exact ⟨mu1, g1, ρ, S1, R.ext e1, h1⟩
    | false => exact ⟨mu1, g1, ρ, S1, R.ext e1, h1⟩
  · cases k with
    | true => exact ha.run pins s1 σ H1 Q I1 q1
    | false => exact hb.run pins s1 σ H1 Q I1 q1⟩

theorem blt_ok {x y : Str} (c : CtxOk cf S X W) (h : bltB S x y = true) : x = y ∧ Gl X x ∧ X.mg x = none := by
  obtain ⟨h1, h2⟩ := ba h
  obtain ⟨h0, h1⟩ := ba h1
  exact ⟨of_decide_eq_true h0, gl_ok c h1, c.free x (by simpa using h2)⟩
theorem tys_ok (c : CtxOk cf S X W) : ∀ {ts : List Ty} {es : List Expr}, tysB S ts es = true → PA X es (fun σ H Q => Q (ts.map fun t => V.ty (tyS t)) H) ∧ es.all (fun e => !starB e) = true
  | [], [], _ => ⟨pa_mono pa_nil fun σ H Q h => h, rfl⟩
  | [], _ :: _, h => by simp [tysB] at h
  | _ :: _, [], h => by simp [tysB] at h
  | t :: ts, e :: es, h => by
    cases e with
    | Name x p =>
      simp only [tysB, Bool.and_eq_true] at h
      obtain ⟨rfl, hg, hm⟩ := blt_ok c h.1
      obtain ⟨r1, r2⟩ := tys_ok c h.2
      have h1 : PE X (.Name (tyN' t) p) (tC (.ty (tyS t))) := by
        cases t <;> exact pe_bltn hg hm (by decide +kernel) rfl
      refine ⟨pa_mono (pa_cons h1 r1 (star_cons rfl)) fun σ H Q h => h, ?_⟩
      simp only [List.all_cons, Bool.and_eq_true]
      exact ⟨rfl, r2⟩
    | _ => simp [tysB] at h
end
end DL

set_option Elab.async false
set_option linter.all false
set_option maxRecDepth 100000
set_option maxHeartbeats 4000000
/-! the deep layer: the checker is right: each kind of expression -/
namespace DL
open PySem PySem.Spec PyProof.Rows L2

section
variable {cf : Cf} {a b c e o elt : E} {es : Es} {x y : Str} {t : Tg} {it : DL.I} {ifs lo hi : Es}
theorem bd2 {p q : Bool} (h : (p && q) = true) : p = true ∧ q = true := Bool.and_eq_true_iff.mp h
theorem nt {p : Bool} (h : (!p) = true) : p = false := by simpa using h
theorem ok_v {i : Nat} : OkE cf (.v i) := by
  intro S X W ex c h
  simp only [okE] at h
  split at h
  · obtain ⟨h1, h2⟩ := bd2 h
    obtain ⟨h2, h3⟩ := bd2 h2
    obtain ⟨n1, n2⟩ := nm_ok h3
    exact pt_of (e := .v i) (s_v (by rw [c.N]; exact of_decide_eq_true h1) (vis_ok c h2) n1 n2) fun _ _ => rfl
  · cases h
theorem ok_non : OkE cf .non := by
  intro S X W ex c h
  simp only [okE] at h
  split at h
  · exact pt_of (e := .non) (s_c pe_non fun _ _ _ => .non) fun _ _ => rfl
  · cases h
theorem ok_bl {b : Bool} : OkE cf (.bl b) := by
  intro S X W ex c h
  simp only [okE] at h
  split at h
  · have := eq_of_beq h
    subst this
    exact pt_of (e := .bl _) (s_c pe_bl fun _ _ _ => .bl _) fun _ _ => rfl
  · cases h
theorem ok_int {b : Int} : OkE cf (.int b) := by
  intro S X W ex c h
  simp only [okE] at h
  split at h
  · have := of_decide_eq_true h
    subst this
    exact pt_of (e := .int _) (s_c pe_int fun _ _ _ => .int _) fun _ _ => rfl
  · cases h
theorem ok_str {b : Str} : OkE cf (.str b) := by
  intro S X W ex c h
  simp only [okE] at h
  split at h
  · have := of_decide_eq_true h
    subst this
    exact pt_of (e := .str _) (s_c pe_str fun _ _ _ => .str _) fun _ _ => rfl
  · cases h
theorem ok_gl {x : Str} : OkE cf (.gl x) := by
  intro S X W ex c h
  simp only [okE] at h
  split at h
  · obtain ⟨h1, h2⟩ := bd2 h
    obtain ⟨h2, h3⟩ := bd2 h2
    have := of_decide_eq_true h1
    subst this
    exact pt_of (e := .gl _) (s_gl (u := .none) (v := .non) (gl_ok c h2) (nm_ok h3).1 fun d hd => c.b.glob _ d hd) fun _ _ => rfl
  · cases h
theorem ok_tup (H : OkEs cf es) : OkE cf (.tup es) := by
  intro S X W ex c h
  simp only [okE] at h
  split at h
  · exact pt_of (e := .tup es) (s_tup ((H S X W c).pa _ h)) fun _ _ => rfl
  · cases h
theorem ok_lst {fz : Bool} (H : OkEs cf es) : OkE cf (.lst fz es) := by
  intro S X W ex c h
  simp only [okE] at h
  split at h
  · exact pt_of (e := .lst fz es) (s_lst ((H S X W c).pa _ h)) fun _ _ => rfl
  · cases h
theorem ok_dct {fz : Bool} {ps : Ps} (H : OkPs cf ps) : OkE cf (.dct fz ps) := by
  intro S X W ex c h
  simp only [okE] at h
  split at h
  · rename_i ks vs pos
    obtain ⟨h1, h2⟩ := bd2 h
    have h2 := of_decide_eq_true h2
    obtain ⟨q1, q2, q3⟩ := H S X W pos ks vs c h1
    refine pt_of (e := .dct fz ps) ?_ fun _ _ => rfl
    by_cases hk : ks = []
    · subst hk
      cases vs with
      | nil =>
        cases ps with
        | nil => exact s_dct0
        | cons _ _ _ => simp [okPs] at h1
      | cons _ _ => cases q3
    · exact s_dct q1 q2 q3 hk h2
  · cases h
theorem ok_bin {op : Op2} (Ha : OkE cf a) (Hb : OkE cf b) : OkE cf (.bin op a b) := by
  intro S X W ex c h
  simp only [okE] at h
  split at h
  · obtain ⟨h1, h2⟩ := bd2 h
    obtain ⟨h2, h3⟩ := bd2 h2
    have := of_decide_eq_true h1
    subst this
    exact pt_of (e := .bin op a b) (s_bin (op2_ok op) (Ha S X W _ c h2).1 (Hb S X W _ c h3).1) fun _ _ => rfl
  · cases h
theorem ok_neg (Ha : OkE cf a) : OkE cf (.neg a) := by
  intro S X W ex c h
  simp only [okE] at h
  split at h
  · exact pt_of (e := .neg a) (s_neg (Ha S X W _ c h).1) fun _ _ => rfl
  · cases h
theorem ok_not (Ha : OkE cf a) : OkE cf (.not a) := by
  intro S X W ex c h
  simp only [okE] at h
  split at h
  · refine ⟨s_not (Ha S X W _ c h).1, ?_⟩
    rw [evT_not]
    exact st_not (Ha S X W _ c h).2
  · cases h
theorem ok_and (H : OkEs cf es) : OkE cf (.and es) := by
  intro S X W ex c h
  simp only [okE] at h
  split at h
  · rename_i xs pos
    obtain ⟨h1, h2⟩ := bd2 h
    have hne : xs ≠ [] := by
      intro e
      subst e
      cases h2
    obtain ⟨q1, q2⟩ := (H S X W c).an xs pos h1 hne
    exact ⟨q1, q2.pt⟩
  · cases h
theorem ok_or (H : OkEs cf es) : OkE cf (.or es) := by
  intro S X W ex c h
  simp only [okE] at h
  split at h
  · rename_i xs pos
    obtain ⟨h1, h2⟩ := bd2 h
    have hne : xs ≠ [] := by
      intro e
      subst e
      cases h2
    obtain ⟨q1, q2⟩ := (H S X W c).orr xs pos h1 hne
    exact ⟨q1, q2.pt⟩
  · cases h
theorem ok_cmp {op : Cp} (Ha : OkE cf a) (Hb : OkE cf b) : OkE cf (.cmp op a b) := by
  intro S X W ex c h
  simp only [okE] at h
  split at h
  · obtain ⟨h1, h2⟩ := bd2 h
    obtain ⟨h0, h2⟩ := bd2 h2
    obtain ⟨h2, h3⟩ := bd2 h2
    have := of_decide_eq_true h1
    subst this
    refine ⟨s_cmp (set_no (nt h0)) (cp_ok op c.hu) (Ha S X W _ c h2).1 (Hb S X W _ c h3).1, ?_⟩
    rw [evT_cmp]
    exact st_cmp (set_no (nt h0)) (cp_ok op c.hu) (Ha S X W _ c h2).1 (Hb S X W _ c h3).1
  · cases h
theorem ok_cmp2 {op op' : Cp} {d : E} (Ha : OkE cf a) (Hb : OkE cf b) (Hc : OkE cf d) : OkE cf (.cmp2 op op' a b d) := by
  intro S X W ex c h
  simp only [okE] at h
  split at h
  · obtain ⟨h1, h2⟩ := bd2 h
    obtain ⟨h1, h1'⟩ := bd2 h1
    obtain ⟨h0, h2⟩ := bd2 h2
    obtain ⟨h2, h3⟩ := bd2 h2
    obtain ⟨h3, h4⟩ := bd2 h3
    have := of_decide_eq_true h1
    subst this
    have := of_decide_eq_true h1'
    subst this
    have hm := set_no (op := pyCp op') (nt h0)
    refine ⟨s_cmp2 hm (cp_ok op c.hu) (cp_ok op' c.hu) (Ha S X W _ c h2).1 (Hb S X W _ c h3).1 (Hc S X W _ c h4).1, ?_⟩
    rw [evT_cmp2]
    exact st_cmp2 hm (cp_ok op c.hu) (cp_ok op' c.hu) (Ha S X W _ c h2).1 (Hb S X W _ c h3).1 (Hc S X W _ c h4).1
  · cases h
theorem ok_isn (Ha : OkE cf a) : OkE cf (.isn a) := by
  intro S X W ex c h
  simp only [okE] at h
  split at h
  · refine ⟨s_isn (Ha S X W _ c h).1, ?_⟩
    rw [evT_isn]
    exact st_isn (Ha S X W _ c h).1
  · cases h
theorem ok_notn (Ha : OkE cf a) : OkE cf (.notn a) := by
  intro S X W ex c h
  simp only [okE] at h
  split at h
  · refine ⟨s_notn (Ha S X W _ c h).1, ?_⟩
    rw [evT_notn]
    exact st_notn (Ha S X W _ c h).1
  · cases h
theorem ok_ite (Hc : OkE cf o) (Ha : OkE cf a) (Hb : OkE cf b) : OkE cf (.ite o a b) := by
  intro S X W ex c h
  simp only [okE] at h
  split at h
  · obtain ⟨h1, h2⟩ := bd2 h
    obtain ⟨h2, h3⟩ := bd2 h2
    constructor
    · rw [evE_ite]
      exact s_ite (Hc S X W _ c h1).2 (Ha S X W _ c h2).1 (Hb S X W _ c h3).1
    · rw [evT_ite]
      exact pt_if (Hc S X W _ c h1).2 (Ha S X W _ c h2).2 (Hb S X W _ c h3).2
  · cases h
theorem hu1 {S : SC} {X : Cx} {W : WX} (c : CtxOk cf S X W) : X.A.units + 1 < cLine := by
  have := c.hu
  omega
theorem ok_ix (Ha : OkE cf a) (Hb : OkE cf b) : OkE cf (.ix a b) := by
  intro S X W ex c h
  simp only [okE] at h
  split at h
  · obtain ⟨h1, h2⟩ := bd2 h
    obtain ⟨h2, h3⟩ := bd2 h2
    exact pt_of (e := .ix a b) (s_ix (hu1 c) c.b.kd (ix_plain h1) (Ha S X W _ c h2).1 (Hb S X W _ c h3).1) fun _ _ => rfl
  · cases h
theorem ok_sl (Ha : OkE cf a) (Hl : OkEs cf lo) (Hh : OkEs cf hi) : OkE cf (.sl a lo hi) := by
  intro S X W ex c h
  simp only [okE] at h
  split at h
  · obtain ⟨h1, h2⟩ := bd2 h
    obtain ⟨h2, h3⟩ := bd2 h2
    exact pt_of (e := .sl a lo hi) (s_sl (Ha S X W _ c h1).1 ((Hl S X W c).po _ h2) ((Hh S X W c).po _ h3)) fun _ _ => rfl
  · cases h
theorem ok_fld {f : Str} (Ha : OkE cf a) : OkE cf (.fld a f) := by
  intro S X W ex c h
  simp only [okE] at h
  split at h
  · obtain ⟨h1, h2⟩ := bd2 h
    obtain ⟨h2, h3⟩ := bd2 h2
    have := of_decide_eq_true h1
    subst this
    exact pt_of (e := .fld a f) (s_fld c.b.fld (Ha S X W _ c h3).1 (ab_ok h2)) fun _ _ => rfl
  · cases h
theorem ok_call {f : Str} (H : OkEs cf es) : OkE cf (.call f es) := by
  intro S X W ex c h
  simp only [okE] at h
  split at h
  · rename_i x p xs pos
    obtain ⟨h1, k2⟩ := bd2 h
    obtain ⟨k3, k4⟩ := bd2 k2
    obtain ⟨h3, h4⟩ := bd2 k4
    obtain ⟨h2, hn⟩ := bd2 k3
    have := of_decide_eq_true h1
    subst this
    obtain ⟨k, hr, cc⟩ := c.b.call _ _ (c.ar _ _ (of_decide_eq_true h4))
    have hg := gl_ok c h2
    have hx := (nm_ok hn).1
    refine pt_of (e := .call f es) ?_ fun _ _ => rfl
    clear h h1 k2 k3 k4 h2 hn h4
    cases xs with
    | nil =>
      cases es with
      | nil => exact s_call0 cc hr c.tk hg hx
      | cons _ _ => simp [okEs] at h3
    | cons y ys =>
      obtain ⟨s1, s2⟩ := all_star (okEs_star h3)
      exact s_call cc hr c.tk (fun ρ g ds g' q => evEs_len q) hg ((H S X W c).pa _ h3) hx (star_cons s1) (star_any s2 _)
  · cases h
theorem ok_callv {i : Nat} (H : OkEs cf es) : OkE cf (.callv i es) := by
  intro S X W ex c h
  simp only [okE] at h
  split at h
  · rename_i x p y xs pos
    obtain ⟨h1, h2⟩ := bd2 h
    obtain ⟨h2, h3⟩ := bd2 h2
    obtain ⟨h2, hn⟩ := bd2 h2
    obtain ⟨n1, n2⟩ := nm_ok hn
    obtain ⟨s1, s2⟩ := all_star (okEs_star h3)
    exact pt_of (e := .callv i es) (s_callv c.b.call c.tk (fun ρ g ds g' q => evEs_len q) (by rw [c.N]; exact of_decide_eq_true h1) (vis_ok c h2) ((H S X W c).pa _ h3) n1 n2 (star_cons s1) (star_any s2 _)) fun _ _ => rfl
  · cases h
theorem ok_bi {b : Bi} (H : OkEs cf es) : OkE cf (.bi b es) := by
  intro S X W ex c h
  simp only [okE] at h
  split at h
  · rename_i x p y xs pos
    obtain ⟨h1, h3⟩ := bd2 h
    obtain ⟨rfl, hg, hm⟩ := blt_ok c h1
    obtain ⟨s1, s2⟩ := all_star (okEs_star h3)
    have ha := (H S X W c).pa _ h3
    refine pt_of (e := .bi b es) ?_ fun _ _ => rfl
    have he : ∀ env, starEach (y :: xs) env = (false, eval y env) :: starEach xs env := fun env => star_cons s1
    have hp := star_any (env := X.env) s2 pos
    cases b with
    | len => exact s_biB bi_len hg hm (by decide +kernel) ha (by decide) (by decide) (he _) hp
    | tuple => exact s_biT bi_tuple hg hm (by decide +kernel) ha (by decide) (by decide) (he _) hp
    | list fz => cases fz <;> exact s_biT (bi_list c.calm) hg hm (by decide +kernel) ha (by decide) (by decide) (he _) hp
    | min2 => exact s_biB (bi_min2 c.calm) hg hm (by decide +kernel) ha (by decide) (by decide) (he _) hp
    | max2 => exact s_biB (bi_max2 c.calm) hg hm (by decide +kernel) ha (by decide) (by decide) (he _) hp
    | abs => exact s_biB bi_abs hg hm (by decide +kernel) ha (by decide) (by decide) (he _) hp
    | all => exact s_biB (bi_bools (cr_all c.calm)) hg hm (by decide +kernel) ha (by decide) (by decide) (he _) hp
    | any => exact s_biB (bi_bools (cr_any c.calm)) hg hm (by decide +kernel) ha (by decide) (by decide) (he _) hp
    | sum => exact s_biB (bi_sum c.calm) hg hm (by decide +kernel) ha (by decide) (by decide) (he _) hp
    | sortI fz => cases fz <;> exact s_biB bi_sortI hg hm (by decide +kernel) ha (by decide) (by decide) (he _) hp
    | strI => exact s_biT bi_strI hg hm (by decide +kernel) ha (by decide) (by decide) (he _) hp
  · cases h
theorem mi_all {X : Cx} (hu : X.A.units + 1 < cLine) (m : Mt) : ∃ id, MtI X m (mtN m) id := by
  cases m with
  | append => exact ⟨_, mi_append⟩
  | get => exact ⟨_, mi_get hu⟩
  | join => exact ⟨_, mi_join⟩
  | pop => exact ⟨_, mi_pop⟩
theorem ok_mt {m : Mt} (Ho : OkE cf o) (H : OkEs cf es) : OkE cf (.mt m o es) := by
  intro S X W ex c h
  simp only [okE] at h
  split at h
  · rename_i x f apos xs cpos
    obtain ⟨h1, k2⟩ := bd2 h
    obtain ⟨k3, k4⟩ := bd2 k2
    obtain ⟨h2, hline⟩ := bd2 k3
    obtain ⟨hlen, k5⟩ := bd2 k4
    obtain ⟨h3, h4⟩ := bd2 k5
    have := of_decide_eq_true h1
    subst this
    obtain ⟨id, i⟩ := mi_all (hu1 c) m
    have hl := of_decide_eq_true hlen
    have ho := (Ho S X W _ c h3).1
    refine pt_of (e := .mt m o es) ?_ fun _ _ => rfl
    clear h h1 k2 k3 k4 k5 hlen h3
    cases xs with
    | nil =>
      cases es with
      | nil => exact s_mt0 i ho (ab_ok h2) hline
      | cons _ _ => simp [okEs] at h4
    | cons y ys =>
      have hs := okEs_star h4
      obtain ⟨s1, s2⟩ := all_star hs
      refine s_mt i ho ((H S X W c).pa _ h4) (ab_ok h2) ?_ hline (star_cons s1) (star_any s2 _)
      rw [star_all hs]
      have e1 : decide ((y :: ys).length + ([] : List Keyword).length + (if ([] : List Keyword).isEmpty then 0 else 1) < 30) = true := by
        rw [decide_eq_true_eq]
        simp only [List.length_nil, List.isEmpty_nil, if_true]
        omega
      rw [e1]
      rfl
  · cases h
theorem ok_kget (Ho : OkE cf o) (H : OkEs cf es) : OkE cf (.kget o es) := by
  intro S X W ex c h
  simp only [okE] at h
  split at h
  · rename_i x f apos y ys cpos
    obtain ⟨h1, k2⟩ := bd2 h
    obtain ⟨k3, k4⟩ := bd2 k2
    obtain ⟨h2, hline⟩ := bd2 k3
    obtain ⟨hlen, k5⟩ := bd2 k4
    obtain ⟨h3, h4⟩ := bd2 k5
    have := of_decide_eq_true h1
    subst this
    have hl := of_decide_eq_true hlen
    have ho := (Ho S X W _ c h3).1
    refine pt_of (e := .kget o es) ?_ fun _ _ => rfl
    have hs := okEs_star h4
    obtain ⟨s1, s2⟩ := all_star hs
    refine s_kget c.b.kt ho ((H S X W c).pa _ h4) (ab_ok h2) ?_ hline (star_cons s1) (star_any s2 _)
    rw [star_all hs]
    have e1 : decide ((y :: ys).length + ([] : List Keyword).length + (if ([] : List Keyword).isEmpty then 0 else 1) < 30) = true := by
      rw [decide_eq_true_eq]
      simp only [List.length_nil, List.length_cons, List.isEmpty_nil, if_true]
      omega
    rw [e1]
    rfl
  · cases h
theorem ok_never : OkE cf .bad := by
  intro S X W ex c h
  exact ⟨pe_bad fun σ H Q ⟨mu, g, ρ, _, _, h⟩ => by simp only [evE] at h; exact h.elim, ⟨fun pins s σ H Q I ⟨mu, g, ρ, _, _, h⟩ => by
    simp only [evT, evTM, evE, bind_def] at h
    exact h.elim⟩⟩
theorem ok_isi {ts : List Ty} {many : Bool} (Ha : OkE cf a) : OkE cf (.isi a ts many) := by
  intro S X W ex c h
  simp only [okE] at h
  split at h
  · rename_i x p y t pos
    obtain ⟨h1, h2⟩ := bd2 h
    obtain ⟨h0, h2⟩ := bd2 h2
    obtain ⟨h2, h3⟩ := bd2 h2
    obtain ⟨rfl, hg, hm⟩ := blt_ok c h1
    have q := (Ha S X W _ c h2).1
    refine pt_of (e := .isi a ts many) ?_ fun _ _ => rfl
    split at h3
    · obtain ⟨h3, h4⟩ := bd2 h3
      cases ts with
      | nil => simp [tysB] at h4
      | cons ty ts =>
        cases ts with
        | nil =>
          cases t with
          | Name z pz =>
            simp only [tysB, Bool.and_eq_true] at h4
            obtain ⟨rfl, hg', hm'⟩ := blt_ok c h4.1
            have h1 : PE X (.Name (tyN' ty) pz) (tC (.ty (tyS ty))) := by
              cases ty <;> exact pe_bltn hg' hm' (by decide +kernel) rfl
            exact s_isi1 hg hm q h1 (star_cons (nt h0)) (star_cons rfl)
          | _ => simp [tysB] at h4
        | cons _ _ =>
          cases t with
          | Name _ _ => simp [tysB] at h4
          | _ => simp [tysB] at h4
    · obtain ⟨h3, h4⟩ := bd2 h3
      obtain ⟨h4, h5⟩ := bd2 h4
      have h5 := of_decide_eq_true h5
      have hne : ts ≠ [] := by
        intro e
        subst e
        cases h4
      obtain ⟨q1, q2⟩ := tys_ok c h3
      exact s_isiT hne (Nat.le_trans h5 (by decide)) hg hm q q1 (star_cons (nt h0)) (star_cons rfl)
    · cases h3
  · cases h
theorem ownP_2 {S : SC} {own : List Nat} : (ownP S own).map (·.2) = own := by
  unfold ownP
  rw [List.map_map]
  exact List.map_id _
theorem ok_lc {fz : Bool} {own : List Nat} (Hi : OkI cf it) (Ht : OkTg cf t) (Hf : OkEs cf ifs) (He : OkE cf elt) : OkE cf (.lc fz own elt t it ifs) := by
  intro S X W ex c h
  simp only [okE] at h
  split at h
  · rename_i x tg iter fs scope pos
    obtain ⟨h1, h2⟩ := bd2 h
    obtain ⟨h1, h1s⟩ := bd2 h1
    obtain ⟨h2, h3⟩ := bd2 h2
    obtain ⟨h2, hk⟩ := bd2 h2
    obtain ⟨h3, h4⟩ := bd2 h3
    obtain ⟨h3, hv⟩ := bd2 h3
    obtain ⟨h4, h5⟩ := bd2 h4
    have hk := of_decide_eq_true hk
    have bk : BlkOk X.N X.env.scope scope (ownP S own) := by
      rw [c.N, c.sc]
      exact blkOk_by h2
    have hvs : ∀ i ∈ tgV t, i ∈ (ownP S own).map (·.2) := by
      rw [ownP_2]
      intro i hi
      simpa using List.all_eq_true.mp hv i hi
    have key := s_lc (fz := fz) (W := W) hvs c.calm c.nd (Hi S X W tg iter c h1) bk (fun s H C cl fp => Ht _ _ WN tg (c.blk hk s H C cl fp) h3) (fun s H C cl fp => (Hf _ _ WN (c.blk hk s H C cl fp)).ifs fs h4) (fun s H C cl fp => (He _ _ WN _ (c.blk hk s H C cl fp) h5).1)
      (fun v => fold_no (nt h1s) v) (pos := pos)
    rw [ownP_2] at key
    exact pt_of (e := .lc fz own elt t it ifs) key fun _ _ => rfl
  · cases h

/-! rows of expressions -/
theorem oks_nil : OkEs cf .nil := by
  intro S X W c
  refine ⟨fun xs h => ?_, fun xs pos h hne => ?_, fun xs pos h hne => ?_, fun xs h => ?_, fun x h => ?_⟩
  · cases xs with
    | nil => exact sa_nil
    | cons _ _ => simp [okEs] at h
  · cases xs with
    | nil => exact absurd rfl hne
    | cons _ _ => simp [okEs] at h
  · cases xs with
    | nil => exact absurd rfl hne
    | cons _ _ => simp [okEs] at h
  · cases xs with
    | nil => exact ⟨fun pins s σ H Q I ⟨mu, g, ρ, S, R, h⟩ => pts_nil.run pins s σ H Q I (Wp.here S h)⟩
    | cons _ _ => simp [okIfs] at h
  · cases x with
    | none => exact sp_none
    | some _ => simp [okPart] at h
theorem oks_cons (He : OkE cf e) (H : OkEs cf es) : OkEs cf (.cons e es) := by
  intro S X W c
  have hh := H S X W c
  refine ⟨fun xs h => ?_, fun xs pos h hne => ?_, fun xs pos h hne => ?_, fun xs h => ?_, fun x h => ?_⟩
  · cases xs with
    | nil => simp [okEs] at h
    | cons x xs =>
      simp only [okEs] at h
      obtain ⟨h1, h2⟩ := bd2 h
      obtain ⟨h2, h3⟩ := bd2 h2
      exact sa_cons (star_cons (nt h1)) (He S X W _ c h2).1 (hh.pa _ h3)
  · cases xs with
    | nil => exact absurd rfl hne
    | cons x xs =>
      simp only [okEs] at h
      obtain ⟨h1, h2⟩ := bd2 h
      obtain ⟨h2, h3⟩ := bd2 h2
      obtain ⟨p1, p2⟩ := He S X W _ c h2
      cases es with
      | nil =>
        cases xs with
        | nil => exact ⟨pe_one p1, pw_and1 p2⟩
        | cons _ _ => simp [okEs] at h3
      | cons e2 es2 =>
        cases xs with
        | nil => simp [okEs] at h3
        | cons x2 xs2 =>
          obtain ⟨q1, q2⟩ := hh.an (x2 :: xs2) pos h3 (by simp)
          refine ⟨?_, ?_⟩
          · exact s_and p1 q1
          · rw [evT_and]
            exact st_and p2 q2
  · cases xs with
    | nil => exact absurd rfl hne
    | cons x xs =>
      simp only [okEs] at h
      obtain ⟨h1, h2⟩ := bd2 h
      obtain ⟨h2, h3⟩ := bd2 h2
      obtain ⟨p1, p2⟩ := He S X W _ c h2
      cases es with
      | nil =>
        cases xs with
        | nil => exact ⟨pe_one p1, pw_or1 p2⟩
        | cons _ _ => simp [okEs] at h3
      | cons e2 es2 =>
        cases xs with
        | nil => simp [okEs] at h3
        | cons x2 xs2 =>
          obtain ⟨q1, q2⟩ := hh.orr (x2 :: xs2) pos h3 (by simp)
          refine ⟨?_, ?_⟩
          · exact s_or p1 q1
          · rw [evT_or]
            exact st_or p2 q2
  · cases es with
    | nil =>
      cases xs with
      | nil => simp [okIfs] at h
      | cons x xs =>
        cases xs with
        | nil =>
          simp only [okIfs] at h
          rw [evIfs_one]
          exact pts_one (He S X W _ c h).2
        | cons _ _ => simp [okIfs] at h
    | cons _ _ => simp [okIfs] at h
  · cases es with
    | nil =>
      cases x with
      | none => simp [okPart] at h
      | some x =>
        simp only [okPart] at h
        exact sp_some (He S X W _ c h).1
    | cons _ _ => cases x <;> simp [okPart] at h
theorem okp_nil : OkPs cf .nil := by
  intro S X W pos ks vs c h
  cases ks with
  | nil =>
    cases vs with
    | nil => exact ⟨sq_nil, rfl, rfl⟩
    | cons _ _ => simp [okPs] at h
  | cons _ _ => cases vs <;> simp [okPs] at h
theorem okp_cons {k v : E} {ps : Ps} (Hk : OkE cf k) (Hv : OkE cf v) (H : OkPs cf ps) : OkPs cf (.cons k v ps) := by
  intro S X W pos ks vs c h
  cases ks with
  | nil => simp [okPs] at h
  | cons x ks =>
    cases x with
    | none => cases vs <;> simp [okPs] at h
    | some x =>
      cases vs with
      | nil => simp [okPs] at h
      | cons y vs =>
        simp only [okPs] at h
        obtain ⟨h1, h2⟩ := bd2 h
        obtain ⟨h2, h3⟩ := bd2 h2
        obtain ⟨q1, q2, q3⟩ := H S X W pos ks vs c h3
        exact ⟨sq_cons (Hk S X W _ c h1).1 (Hv S X W _ c h2).1 q1, by simp [q2], by simp [q3]⟩

/-! targets -/
theorem asg_sub {o i : Expr} {pos : Pos} {env : Env} (h : ixB i = true) (v : Value) : assign (.Subscript o i pos) env v = (do
      let ov ← holding [v] (eval o env)
      let iv ← holding [v, ov] (eval i env)
      standAt pos
      holding [v, ov, iv] (setItem ov iv v)
      release [v, ov, iv] []) := by
  cases i <;> first | rfl | cases h
theorem okt_v {i : Nat} : OkTg cf (.v i) := by
  intro S X W tg c h
  simp only [okTg] at h
  split at h
  · obtain ⟨h1, h2⟩ := bd2 h
    obtain ⟨q1, q2⟩ := loc_ok c h2
    exact sg_name c.nd (by rw [c.N]; exact of_decide_eq_true h1) q1 q2
  · cases h
theorem okt_tup {ts : Tgs} (H : OkTgs cf ts) : OkTg cf (.tup ts) := by
  intro S X W tg c h
  simp only [okTg] at h
  split at h
  · obtain ⟨q1, q2, q3⟩ := H S X W _ c h
    exact sg_tup c.calm q1 q2 q3
  · cases h
theorem okt_ix (Ha : OkE cf a) (Hb : OkE cf b) : OkTg cf (.ix a b) := by
  intro S X W tg c h
  simp only [okTg] at h
  split at h
  · obtain ⟨h1, h2⟩ := bd2 h
    obtain ⟨h2, h3⟩ := bd2 h2
    refine sg_ix (hu1 c) (Ha S X WN _ c.wn h2).1 (Hb S X WN _ c.wn h3).1 fun v => ?_
    exact asg_sub h1 v
  · cases h
theorem okt_fld {f : Str} : OkTg cf (.fld a f) := by
  intro S X W tg c h
  simp [okTg] at h
theorem okts_nil : OkTgs cf .nil := by
  intro S X W tgs c h
  cases tgs with
  | nil => 
    refine ⟨pgs_mono sgs_nil fun v σ H Q ⟨mu, g, ρ, ds, S, R, r, h⟩ => ⟨mu, g, ρ, ds, S, R, r, ?_⟩, rfl, rfl⟩
    cases ds with
    | nil => simp only [asgTs] at h; exact h
    | cons _ _ => simp only [asgTs] at h; exact h
  | cons _ _ => simp [okTgs] at h
theorem okts_cons {ts : Tgs} (Ht : OkTg cf t) (H : OkTgs cf ts) : OkTgs cf (.cons t ts) := by
  intro S X W tgs c h
  cases tgs with
  | nil => simp [okTgs] at h
  | cons x xs =>
    simp only [okTgs] at h
    obtain ⟨h1, h2⟩ := bd2 h
    obtain ⟨h2, h3⟩ := bd2 h2
    obtain ⟨q1, q2, q3⟩ := H S X W xs c h3
    have hs := asg_cons (env := X.env) (es := xs) (nt h1)
    refine ⟨pgs_mono (sgs_cons (Ht S X W _ c h2) q1 (by rw [hs]; rfl)) fun v σ H Q ⟨mu, g, ρ, ds, S, R, r, h⟩ => ⟨mu, g, ρ, ds, S, R, r, ?_⟩, ?_, ?_⟩
    · cases ds with
      | nil => simp only [asgTs] at h; exact h
      | cons _ _ => simp only [asgTs] at h; exact h
    · rw [hs]; simp [q2, Tgs.len]
    · rw [hs, List.findIdx?_cons]; simp [q3]

/-! what is gone through -/
theorem oki_e (Ha : OkE cf a) : OkI cf (.e a) := by
  intro S X W tg ex c h
  simp only [okI] at h
  exact si_e (Ha S X W _ c h).1
theorem oki_rng1 (Ha : OkE cf a) : OkI cf (.rng1 a) := by
  intro S X W tg ex c h
  simp only [okI] at h
  split at h
  · obtain ⟨h1, h2⟩ := bd2 h
    obtain ⟨h2, h3⟩ := bd2 h2
    obtain ⟨rfl, hg, hm⟩ := blt_ok c h1
    exact si_rng1 hg hm (Ha S X W _ c h3).1 (star_cons (nt h2))
  · cases h
theorem oki_rng2 (Ha : OkE cf a) (Hb : OkE cf b) : OkI cf (.rng2 a b) := by
  intro S X W tg ex c h
  simp only [okI] at h
  split at h
  · obtain ⟨h1, h2⟩ := bd2 h
    obtain ⟨h2, h3⟩ := bd2 h2
    obtain ⟨h2, h2'⟩ := bd2 h2
    obtain ⟨h3, h4⟩ := bd2 h3
    obtain ⟨rfl, hg, hm⟩ := blt_ok c h1
    exact si_rng2 hg hm (Ha S X W _ c h3).1 (Hb S X W _ c h4).1 (star_cons (nt h2)) (star_cons (nt h2'))
  · cases h
theorem oki_enum (Ha : OkE cf a) : OkI cf (.enum a) := by
  intro S X W tg ex c h
  simp only [okI] at h
  split at h
  · obtain ⟨h1, h2⟩ := bd2 h
    obtain ⟨h2, h3⟩ := bd2 h2
    obtain ⟨rfl, hg, hm⟩ := blt_ok c h1
    exact si_enum hg hm (Ha S X W _ c h3).1 (star_cons (nt h2))
  · cases h
theorem oki_zip (Ha : OkE cf a) (Hb : OkE cf b) : OkI cf (.zip a b) := by
  intro S X W tg ex c h
  simp only [okI] at h
  split at h
  · obtain ⟨h1, h2⟩ := bd2 h
    obtain ⟨h2, h3⟩ := bd2 h2
    obtain ⟨h2, h2'⟩ := bd2 h2
    obtain ⟨h3, h4⟩ := bd2 h3
    obtain ⟨rfl, hg, hm⟩ := blt_ok c h1
    exact si_zip hg hm (Ha S X W _ c h3).1 (Hb S X W _ c h4).1 (star_cons (nt h2)) (star_cons (nt h2'))
  · cases h
theorem oki_items (Ha : OkE cf a) : OkI cf (.items a) := by
  intro S X W tg ex c h
  simp only [okI] at h
  split at h
  · obtain ⟨h1, h2⟩ := bd2 h
    obtain ⟨h2, h3⟩ := bd2 h2
    obtain ⟨h2, hl⟩ := bd2 h2
    have := of_decide_eq_true h1
    subst this
    exact si_items (Ha S X W _ c h3).1 (ab_ok h2) hl
  · cases h
theorem oki_vals (Ha : OkE cf a) : OkI cf (.vals a) := by
  intro S X W tg ex c h
  simp only [okI] at h
  split at h
  · obtain ⟨h1, h2⟩ := bd2 h
    obtain ⟨h2, h3⟩ := bd2 h2
    obtain ⟨h2, hl⟩ := bd2 h2
    have := of_decide_eq_true h1
    subst this
    exact si_vals (Ha S X W _ c h3).1 (ab_ok h2) hl
  · cases h
theorem ok_bad {e : E} (h : ∀ S ex, okE S e ex = false) : OkE cf e := by
  intro S X W ex c q
  rw [h] at q
  cases q
end
mutual
theorem allE (cf : Cf) : ∀ e : E, OkE cf e
  | .v i => ok_v
  | .non => ok_non
  | .bl b => ok_bl
  | .int i => ok_int
  | .str x => ok_str
  | .gl x => ok_gl
  | .tup es => ok_tup (allEs cf es)
  | .lst fz es => ok_lst (allEs cf es)
  | .dct fz ps => ok_dct (allPs cf ps)
  | .bin op a b => ok_bin (allE cf a) (allE cf b)
  | .neg a => ok_neg (allE cf a)
  | .not a => ok_not (allE cf a)
  | .and es => ok_and (allEs cf es)
  | .or es => ok_or (allEs cf es)
  | .cmp op a b => ok_cmp (allE cf a) (allE cf b)
  | .cmp2 op op' a b c => ok_cmp2 (allE cf a) (allE cf b) (allE cf c)
  | .isn a => ok_isn (allE cf a)
  | .notn a => ok_notn (allE cf a)
  | .ite c a b => ok_ite (allE cf c) (allE cf a) (allE cf b)
  | .ix a b => ok_ix (allE cf a) (allE cf b)
  | .sl a lo hi => ok_sl (allE cf a) (allEs cf lo) (allEs cf hi)
  | .fld a f => ok_fld (allE cf a)
  | .call f es => ok_call (allEs cf es)
  | .callv i es => ok_callv (allEs cf es)
  | .mk fz C es => ok_bad fun S ex => by simp only [okE]
  | .own m o es => ok_bad fun S ex => by simp only [okE]
  | .bi b es => ok_bi (allEs cf es)
  | .mt m o es => ok_mt (allE cf o) (allEs cf es)
  | .isi a ts many => ok_isi (allE cf a)
  | .kget o es => ok_kget (allE cf o) (allEs cf es)
  | .bad => ok_never
  | .lc fz own elt t it ifs => ok_lc (allI cf it) (allTg cf t) (allEs cf ifs) (allE cf elt)
theorem allEs (cf : Cf) : ∀ es : Es, OkEs cf es
  | .nil => oks_nil
  | .cons e es => oks_cons (allE cf e) (allEs cf es)
theorem allPs (cf : Cf) : ∀ es : Ps, OkPs cf es
  | .nil => okp_nil
  | .cons k v es => okp_cons (allE cf k) (allE cf v) (allPs cf es)
theorem allTg (cf : Cf) : ∀ t : Tg, OkTg cf t
  | .v i => okt_v
  | .tup ts => okt_tup (allTgs cf ts)
  | .ix a b => okt_ix (allE cf a) (allE cf b)
  | .fld a f => okt_fld
theorem allTgs (cf : Cf) : ∀ t : Tgs, OkTgs cf t
  | .nil => okts_nil
  | .cons t ts => okts_cons (allTg cf t) (allTgs cf ts)
theorem allI (cf : Cf) : ∀ i : DL.I, OkI cf i
  | .e a => oki_e (allE cf a)
  | .rng1 a => oki_rng1 (allE cf a)
  | .rng2 a b => oki_rng2 (allE cf a) (allE cf b)
  | .enum a => oki_enum (allE cf a)
  | .zip a b => oki_zip (allE cf a) (allE cf b)
  | .items a => oki_items (allE cf a)
  | .vals a => oki_vals (allE cf a)
end
end DL

set_option Elab.async false
set_option linter.all false
set_option maxRecDepth 100000
set_option maxHeartbeats 4000000
/-! the deep layer: the checker is right: statements, defs -/
namespace DL
open PySem PySem.Spec PyProof.Rows L2

def OkSt (cf : Cf) (s : DL.S) : Prop := ∀ (S : SC) (X : Cx) (W : WX) (st : Stmt), CtxOk cf S X W → okS S s st = true → PS X st (tS X.K W (evS cf s))
def OkSs (cf : Cf) (ss : Ss) : Prop := ∀ (S : SC) (X : Cx) (W : WX) (sts : List Stmt), CtxOk cf S X W → okSs S ss sts = true → PSs X sts (tS X.K W (evSs cf ss))
section
variable {cf : Cf} {a b c e o : E} {es : Es} {x y : Str} {t : Tg} {it : DL.I}
theorem aug_ok {X : Cx} {op : Op2} {q : Operator} (h : augB op q = true) : OpR X (inplaceOp q) (rF2 X.K (aug2 op)) := by
  intro pins s σ H x y v u Q I rx ry ⟨mu, g, d, e, z, S, hx, hy, h1, k⟩
  unfold aug2 at h1
  split at h1
  · rename_i i j e1 e2
    cases q <;> first | cases h | skip
    cases h1
    exact iop_add pins s σ H x y v u Q I rx ry ⟨i, j, rd_int hx e1, rd_int hy e2, k.flat S (.int _)⟩
  · rename_i i j e1 e2
    cases q <;> first | cases h | skip
    cases h1
    exact iop_sub pins s σ H x y v u Q I rx ry ⟨i, j, rd_int hx e1, rd_int hy e2, k.flat S (.int _)⟩
  · cases h1
theorem kind_fn {S : SC} {X : Cx} {W : WX} (c : CtxOk cf S X W) : X.env.scope.kind = .function := c.kind
theorem sw_eq {S : SC} {X : Cx} {W : WX} (c : CtxOk cf S X W) {elt : Expr} {gs : List Comprehension} {scope : Scope} {pos py : Pos} {l : Nat} : swapsWith (.ListComp elt gs scope pos) (some (.Name x py)) l X.env = pure (swLc S x py scope pos) := by
  have hb : X.env.blockKind = .function := by unfold Env.blockKind; rw [c.kind]; rfl
  have hs : X.env.kindOf x = S.sc.names.lookup x := by unfold Env.kindOf; rw [c.sc]
  unfold swapsWith swLc
  simp only [hb, hs, Expr.pos]
  rfl
theorem sole_eq {tg y : Expr} {l : Nat} {env : Env} : swapsWithSole [tg] y l env = swapsWith y (some tg) l env := by
  simp only [swapsWithSole]
theorem okS_ex (Ha : OkE cf a) : OkSt cf (.ex a) := by
  intro S X W st c h
  simp only [okS] at h
  split at h
  · obtain ⟨h1, h2⟩ := bd2 h
    exact ss_ex (Ha S X W _ c h2).1 (swap_no (nt h1))
  · cases h
theorem okS_ret (Ha : OkE cf a) : OkSt cf (.ret a) := by
  intro S X W st c h
  simp only [okS] at h
  split at h
  · exact ss_ret (Ha S X W _ c h).1
  · cases h
theorem okS_retn : OkSt cf .retn := by
  intro S X W st c h
  simp only [okS] at h
  split at h
  · exact ss_retn
  · cases h
theorem okS_pas : OkSt cf .pas := by
  intro S X W st c h
  simp only [okS] at h
  split at h
  · exact ss_pas
  · cases h
theorem okS_brk : OkSt cf .brk := by
  intro S X W st c h
  simp only [okS] at h
  split at h
  · exact ss_brk
  · cases h
theorem okS_cnt : OkSt cf .cnt := by
  intro S X W st c h
  simp only [okS] at h
  split at h
  · exact ss_cnt
  · cases h
theorem okS_fld {f : Str} (Ho : OkE cf o) (Ha : OkE cf a) : OkSt cf (.asg (.fld o f) a) := by
  intro S X W st c h
  simp only [okS, fldB] at h
  split at h
  · obtain ⟨h1, h2⟩ := bd2 h
    obtain ⟨h2, h3⟩ := bd2 h2
    obtain ⟨h3, h4⟩ := bd2 h3
    have := of_decide_eq_true h1
    subst this
    exact ss_fld c.b.fld (Ho S X WN _ c.wn h3).1 (Ha S X W _ c h4).1 (swap_no (nt h2))
  · cases h
theorem okS_asg (Ht : OkTg cf t) (Ha : OkE cf a) (hl : ∀ fz own elt tg it ifs, a = .lc fz own elt tg it ifs → OkTg cf tg ∧ OkI cf it ∧ OkEs cf ifs ∧ OkE cf elt) (hf : ∀ o f, t ≠ .fld o f) : OkSt cf (.asg t a) := by
  intro S X W st c h
  have h' : asgB S t a st = true := by
    cases t with
    | fld o f => exact absurd rfl (hf o f)
    | _ => simpa only [okS] using h
  clear h
  unfold asgB at h'
  split at h'
  · rename_i tg y pos
    obtain ⟨h1, h2⟩ := bd2 h'
    obtain ⟨h2, h3⟩ := bd2 h2
    obtain ⟨h3, h4⟩ := bd2 h3
    obtain ⟨h3, h5⟩ := bd2 h3
    have hg := Ht S X W tg c h1
    have hp := (Ha S X W y c h2).1
    have hw := noSw_ok (a := y) (env := X.env) c.sc c.kind h5
    have ha : (assignEach [tg] X.env).map (·.2) = [assign tg X.env] := by rw [asg_cons (nt h3)]; rfl
    have norm : swapsWith y (some tg) pos.line X.env = pure false → PS X (.Assign [tg] y pos) (tS X.K W (evS cf (.asg t a))) := fun hs => ss_asg hp hg (sole_eq.trans hs) hw ha
    cases tg with
    | Name x py =>
      by_cases hc : compB y = true
      · cases y with
        | ListComp elt gs scope p =>
          simp only at h4
          by_cases hsw : swLc S x py scope p = true
          · rw [if_pos hsw] at h4
            cases t with
            | v i =>
              cases a with
              | lc fz own elt' t' it' ifs' =>
                simp only at h4
                obtain ⟨Ht', Hi', Hf', He'⟩ := hl _ _ _ _ _ _ rfl
                simp only [okE] at h2
                split at h2
                · rename_i x2 tg2 iter2 fs2 scope2 pos2 q
                  cases q
                  obtain ⟨k0, _⟩ := bd2 h2
                  obtain ⟨k1, k2⟩ := bd2 k0
                  obtain ⟨k1, k1s⟩ := bd2 k1
                  obtain ⟨k2, k3⟩ := bd2 k2
                  obtain ⟨k2, hk⟩ := bd2 k2
                  obtain ⟨k3, k4⟩ := bd2 k3
                  obtain ⟨k3, hv⟩ := bd2 k3
                  obtain ⟨k4, k5⟩ := bd2 k4
                  have hk := of_decide_eq_true hk
                  have bk : BlkOk X.N X.env.scope scope (ownP S own) := by
                    rw [c.N, c.sc]
                    exact blkOk_by k2
                  have hvs : ∀ i ∈ tgV t', i ∈ (ownP S own).map (·.2) := by
                    rw [ownP_2]
                    intro i hi
                    simpa using List.all_eq_true.mp hv i hi
                  simp only [okTg] at h1
                  obtain ⟨h1a, h1b⟩ := bd2 h1
                  have h1a := of_decide_eq_true h1a
                  have key := ss_lc (fz := fz) (W := W) (py := py) (spos := pos) (y := x) (i0 := i) hvs c.calm c.nd (by rw [c.N]; exact h1a) (by rw [c.sc]; exact eq_of_beq h4) (by rw [sw_eq c, hsw]) (Hi' S X W tg2 iter2 c k1) bk (fun s H C cl fp => Ht' _ _ WN tg2 (c.blk hk s H C cl fp) k3) (fun s H C cl fp => (Hf' _ _ WN (c.blk hk s H C cl fp)).ifs fs2 k4) (fun s H C cl fp => (He' _ _ WN _ (c.blk hk s H C cl fp) k5).1)
                    (fun v => fold_no (nt k1s) v) (pos := p)
                  rw [ownP_2] at key
                  exact key
                · cases h2
              | _ => simp at h4
            | _ => simp at h4
          · exact norm (by
              rw [sw_eq c]
              congr 1
              simpa using hsw)
        | SetComp _ _ _ _ => simp [compB] at h4
        | DictComp _ _ _ _ _ => simp [compB] at h4
        | _ => simp [compB] at hc
      · exact norm (swap_no (by simpa using hc))
    | _ => exact norm (by cases y <;> rfl)
  · cases h'
theorem okS_par {is : List Nat} (H : OkEs cf es) : OkSt cf (.par is es) := by
  intro S X W st c h
  simp only [okS] at h
  split at h
  · rename_i ts kt pt vs k2 pt2 pos
    obtain ⟨h1, h2⟩ := bd2 h
    have ha := (H S X W c).pa _ h1
    split at h2
    · rename_i i j x px y py a b
      obtain ⟨q1, q2⟩ := bd2 h2
      obtain ⟨q1, q3⟩ := bd2 q1
      obtain ⟨q1, q4⟩ := bd2 q1
      obtain ⟨q2, q5⟩ := bd2 q2
      obtain ⟨q2, q6⟩ := bd2 q2
      exact ss_par2 c.calm c.nd (by rw [c.N]; exact of_decide_eq_true q1) (by rw [c.N]; exact of_decide_eq_true q4) (of_decide_eq_true q3) (by rw [c.sc]; exact eq_of_beq q2) (by rw [c.sc]; exact eq_of_beq q6) ha
        (swap_tup c.sc c.kind (of_decide_eq_true q5)) rfl
    · rename_i i j l x px y py z pz a b d
      obtain ⟨q1, q2⟩ := bd2 h2
      obtain ⟨q1, q3⟩ := bd2 q1
      obtain ⟨q1, q4⟩ := bd2 q1
      obtain ⟨q1, q5⟩ := bd2 q1
      obtain ⟨q3, q6⟩ := bd2 q3
      obtain ⟨q6, q7⟩ := bd2 q6
      obtain ⟨q2, q8⟩ := bd2 q2
      obtain ⟨q2, q9⟩ := bd2 q2
      obtain ⟨q9, q10⟩ := bd2 q9
      exact ss_par3 c.calm c.nd (by rw [c.N]; exact of_decide_eq_true q1) (by rw [c.N]; exact of_decide_eq_true q5) (by rw [c.N]; exact of_decide_eq_true q4) (of_decide_eq_true q3) (of_decide_eq_true q6) (of_decide_eq_true q7)
        (by rw [c.sc]; exact eq_of_beq q2) (by rw [c.sc]; exact eq_of_beq q9) (by rw [c.sc]; exact eq_of_beq q10) ha (swap_tup c.sc c.kind (of_decide_eq_true q8)) rfl
    · cases h2
  · cases h
theorem okS_augv {i : Nat} {op : Op2} (Ha : OkE cf a) : OkSt cf (.augv i op a) := by
  intro S X W st c h
  simp only [okS] at h
  split at h
  · obtain ⟨h1, h2⟩ := bd2 h
    obtain ⟨h2, h3⟩ := bd2 h2
    obtain ⟨h3, h4⟩ := bd2 h3
    obtain ⟨q1, q2⟩ := loc_ok c h2
    exact ss_augv c.nd (by rw [c.N]; exact of_decide_eq_true h1) q1 q2 (aug_ok h3) (Ha S X W _ c h4).1
  · cases h
theorem okS_iff {xs ys : Ss} (Hc : OkE cf o) (Hx : OkSs cf xs) (Hy : OkSs cf ys) : OkSt cf (.iff o xs ys) := by
  intro S X W st c h
  simp only [okS] at h
  split at h
  · obtain ⟨h1, h2⟩ := bd2 h
    obtain ⟨h2, h3⟩ := bd2 h2
    exact ss_iff (Hc S X W _ c h1).2 (Hx S X W _ c h2) (Hy S X W _ c h3)
  · cases h
theorem okS_for {xs : Ss} (Ht : OkTg cf t) (Hi : OkI cf it) (Hx : OkSs cf xs) : OkSt cf (.forr t it xs) := by
  intro S X W st c h
  simp only [okS] at h
  split at h
  · obtain ⟨h1, h2⟩ := bd2 h
    obtain ⟨h1, h3⟩ := bd2 h1
    obtain ⟨h3, h4⟩ := bd2 h3
    exact ss_for c.po c.calm (Hi S X W _ _ c h3) (Ht S X W _ c h1) (Hx S X W _ c h2) fun v => fold_no (nt h4) v
  · cases h
theorem okS_whl {xs : Ss} (Hc : OkE cf o) (Hx : OkSs cf xs) : OkSt cf (.whl o xs) := by
  intro S X W st c h
  simp only [okS] at h
  split at h
  · obtain ⟨h1, h2⟩ := bd2 h
    exact ss_whl c.po (Hc S X W _ c h1).2 (Hx S X W _ c h2)
  · cases h
theorem okS_bad {s : DL.S} (h : ∀ S st, okS S s st = false) : OkSt cf s := by
  intro S X W st c q
  rw [h] at q
  cases q
theorem okS_never : OkSt cf .bad := by
  intro S X W st c q
  exact ⟨fun pins s σ H Q I ⟨mu, g, ρ, _, _, h⟩ => by simp only [evS] at h; exact h.elim⟩
theorem okss_nil : OkSs cf .nil := by
  intro S X W sts c h
  cases sts with
  | nil => exact sss_nil
  | cons _ _ => simp [okSs] at h
theorem okss_cons {s : DL.S} {ss : Ss} (hs : OkSt cf s) (Hs : OkSs cf ss) : OkSs cf (.cons s ss) := by
  intro S X W sts c h
  by_cases hf : ∃ i, s = .frz i
  · obtain ⟨i, rfl⟩ := hf
    simp only [okSs] at h
    exact sss_frz (Hs S X W _ c h)
  · cases sts with
    | nil => cases s <;> first | exact absurd ⟨_, rfl⟩ hf | simp [okSs] at h
    | cons st sts =>
      have h' : (okS S s st && okSs S ss sts) = true := by
        cases s <;> first | exact absurd ⟨_, rfl⟩ hf | simpa only [okSs] using h
      obtain ⟨h1, h2⟩ := bd2 h'
      exact sss_cons (hs S X W _ c h1) (Hs S X W _ c h2)
end
theorem allAsg (cf : Cf) (t : Tg) (a : E) : OkSt cf (.asg t a) := by
  by_cases hf : ∃ o f, t = .fld o f
  · obtain ⟨o, f, rfl⟩ := hf
    exact okS_fld (allE cf o) (allE cf a)
  · exact okS_asg (allTg cf t) (allE cf a) (fun fz own elt tg it ifs _ => ⟨allTg cf tg, allI cf it, allEs cf ifs, allE cf elt⟩) fun o f e => hf ⟨o, f, e⟩
mutual
theorem allS (cf : Cf) : ∀ s : DL.S, OkSt cf s
  | .ex a => okS_ex (allE cf a)
  | .ret a => okS_ret (allE cf a)
  | .retn => okS_retn
  | .asg t a => allAsg cf t a
  | .par is es => okS_par (allEs cf es)
  | .augv i op a => okS_augv (allE cf a)
  | .augf o f op a => okS_bad fun S st => by simp only [okS]
  | .iff c a b => okS_iff (allE cf c) (allSs cf a) (allSs cf b)
  | .forr t it b => okS_for (allTg cf t) (allI cf it) (allSs cf b)
  | .whl c b => okS_whl (allE cf c) (allSs cf b)
  | .brk => okS_brk
  | .cnt => okS_cnt
  | .pas => okS_pas
  | .rse C es => okS_bad fun S st => by simp only [okS]
  | .frz i => okS_bad fun S st => by simp only [okS]
  | .bad => okS_never
theorem allSs (cf : Cf) : ∀ ss : Ss, OkSs cf ss
  | .nil => okss_nil
  | .cons s ss => okss_cons (allS cf s) (allSs cf ss)
end
end DL

set_option Elab.async false
set_option linter.all false
set_option maxRecDepth 100000
set_option maxHeartbeats 4000000
/-! the deep layer: a table of defs, the end -/
namespace DL
open PySem PySem.Spec PyProof.Rows L2

structure Def where
  ar : Nat
  nn : Nat
  body : Ss
structure Tb where
  defs : List (Str × Def)
  glob : List (Str × D)
  kd : List (Str × List (Str × D))
  flds : List (Str × List Str)
  free : List Str
  wf : Nat
def Tb.arL (T : Tb) : List (Str × Nat) := T.defs.map fun p => (p.1, p.2.ar)
def Tb.fld (T : Tb) (C f : Str) : Bool := match T.flds.lookup C with
  | some fs => fs.contains f
  | none => false
def Tb.kdL (T : Tb) (n z : Str) : Option D := match T.kd.lookup n with
  | some l => l.lookup z
  | none => none
def callD (T : Tb) (ev : Ss → Env' → M (Fl × Env')) (f : Str) (ds : List D) : M D := match T.defs.lookup f with
  | some d => if ds.length = d.ar then fun g => runB (ev d.body (start0 d.nn ds) g) else M.bad
  | none => M.bad
def cfN (T : Tb) : Nat → Cf
  | 0 => { ar := fun f => T.arL.lookup f, glob := fun x => T.glob.lookup x, kd := T.kdL, kt := fun n => T.kd.lookup n, meth := fun _ _ => none, fld := T.fld, isC := fun _ => false, wf := T.wf, call := fun _ _ => M.bad }
  | n + 1 => { ar := fun f => T.arL.lookup f, glob := fun x => T.glob.lookup x, kd := T.kdL, kt := fun n => T.kd.lookup n, meth := fun _ _ => none, fld := T.fld, isC := fun _ => false, wf := T.wf, call := callD T (evSs (cfN T n)) }
theorem lookup_map {α β : Type} (f : α → β) (x : Str) : ∀ l : List (Str × α), (l.map fun p => (p.1, f p.2)).lookup x = (l.lookup x).map f
  | [] => rfl
  | (y, a) :: l => by
    simp only [List.map_cons, List.lookup_cons]
    cases x == y with
    | true => rfl
    | false => exact lookup_map f x l
/-- a def of the text by its datum -/
structure DefOk (T : Tb) (K : PySem.W.Frag) (mg : Str → Option Value) (x : Str) (d : Def) : Prop where
  ex : ∃ (qual : Str) (params : Arguments) (body : List Stmt) (scope : Scope) (N ps : List Str) (fd : FuncData), FunD K x qual params body scope [] [] (He.ga K x) fd ∧ FnScope N ps scope ∧ N.length = d.nn ∧ ps.length = d.ar ∧ (∀ (s : Shared) (us : List Value), us.length = ps.length → BindsTo s fd ⟨us, []⟩ (ps.zip us)) ∧
    okSs { sc := scope, N := N, fn := fun _ => true, ar := T.arL, free := T.free } d.body body = true
  gl : mg x = some (.ref (He.ga K x))
/-- what is asked of the module -/
structure ModOk (T : Tb) (w : World) (K : PySem.W.Frag) (mg : Str → Option Value) : Prop where
  defs : ∀ x d, T.defs.lookup x = some d → DefOk T K mg x d
  glob : ∀ x d, T.glob.lookup x = some d → ∃ u v, mg x = some u ∧ RelV v u ∧ ∀ own mu H, RV K own mu H v d
  kd : ∀ n z d, T.kdL n z = some d → ∃ v, KDct K w (He.ga K n) z v ∧ ∀ own mu H, RV K own mu H v d
  kt : ∀ n l, T.kd.lookup n = some l → ∃ lv, KTab K w (He.ga K n) lv ∧ ∀ z, (∃ d v, l.lookup z = some d ∧ lv.lookup z = some v ∧ ∀ own mu H, RV K own mu H v d) ∨ (l.lookup z = none ∧ lv.lookup z = none)
  fld : ∀ C f, T.fld C f = true → Cls K (He.ga K C) ∧ NoAttr K (He.ga K C) f
  free : ∀ x, x ∈ T.free → mg x = none
section
variable {T : Tb} {P : Program} {w : World} {K : PySem.W.Frag} {mg : Str → Option Value}
theorem binds_of {fd : FuncData} {ps : List Str} (h : ∀ (s : Shared) (us : List Value), us.length = ps.length → BindsTo s fd ⟨us, []⟩ (ps.zip us)) : Binds K fd ps [] := fun s us _ hl => by
  rw [List.append_nil] at hl ⊢
  exact h s us hl
theorem cal_ok' (m : ModOk T w K mg) : ∀ (n : Nat) (f : Str) (k : Nat), (cfN T n).ar f = some k → PySem.W.keepIn K (.ref (He.ga K f)) = true ∧ mg f = some (.ref (He.ga K f)) ∧
    ∃ fd ps, (∀ base : Heap, FnOk P w K mg base (L2.CX P w) (2 * n + 1) (He.ga K f) fd ps (spD K k ((cfN T n).call f))) ∧ ps.length = k ∧ ∀ (s : Shared) (us : List Value), us.length = ps.length → BindsTo s fd ⟨us, []⟩ (ps.zip us) := by
  intro n
  induction n with
  | zero =>
    intro f k hk
    have hk : T.arL.lookup f = some k := hk
    unfold Tb.arL at hk
    rw [lookup_map] at hk
    obtain ⟨d, hd, rfl⟩ := Option.map_eq_some_iff.mp hk
    have o := m.defs f d hd
    obtain ⟨qual, params, body, scope, N, ps, fd, F, S, h1, h2, hb, h3⟩ := o.ex
    exact ⟨F.kp, o.gl, fd, ps, fun base => F.ok S (fun vs H Q E h => by rw [h2]; exact h.1) fun cdv A outer s H vs Q E hr ⟨_, mu, g, ds, S, r, h⟩ => h.elim, h2, hb⟩
  | succ n ih =>
    intro f k hk
    have hk : T.arL.lookup f = some k := hk
    unfold Tb.arL at hk
    rw [lookup_map] at hk
    obtain ⟨d, hd, rfl⟩ := Option.map_eq_some_iff.mp hk
    have o := m.defs f d hd
    obtain ⟨qual, params, body, scope, N, ps, fd, F, S, h1, h2, hb, h3⟩ := o.ex
    refine ⟨F.kp, o.gl, fd, ps, fun base => ?_, h2, hb⟩
    show FnOk P w K mg base (L2.CX P w) (2 * n + 2 + 1) (He.ga K f) fd ps _
    refine F.ok S (fun vs H Q E h => by rw [h2]; exact h.1) fun cdv A outer s H vs Q E hr ⟨hl, mu, g, ds, Si, r, h⟩ => ?_
    let X := cxOf (L2.CX P w) P w K mg base N qual scope (He.ga K f) cdv A outer s H E
    have c : CtxOk (cfN T n) { sc := scope, N := N, fn := fun _ => true, ar := T.arL, free := T.free } X (fun c d _ H => E c d H) := by
      have hro : Room (2 * n + 1) X.A := hr.mono (by omega)
      have hB : BaseOk (cfN T n) P w K mg base X.A := by
        refine ⟨fun f k h => ?_, ?_, ?_, ?_, ?_⟩
        · obtain ⟨kp, gl, fd, ps, F1, _, hb1⟩ := ih f k h
          exact ⟨2 * n + 1, hro, ⟨fd, ps, F1 base, binds_of hb1⟩, kp, gl⟩
        · cases n <;> exact m.glob
        · cases n <;> exact m.kd
        · cases n <;> exact m.kt
        · cases n <;> exact m.fld
      have hu : X.A.units + 64 < cLine := by
        have := hro.un
        omega
      refine ⟨hB, hu, rfl, S.nd, takes_of rfl rfl rfl rfl, passes_of rfl, rfl, S.kind, rfl, fun _ _ => rfl, ?_, m.free⟩
      cases n <;> exact fun f k h => h
    refine ⟨tS K (fun c d _ H => E c d H) (evSs (cfN T n) d.body), allSs (cfN T n) d.body _ X _ body c h3, mu, g, start0 N.length ds, Si, start_ok r, ?_⟩
    have e1 : (cfN T (n + 1)).call f ds g = runB (evSs (cfN T n) d.body (start0 d.nn ds) g) := by
      show callD T (evSs (cfN T n)) f ds g = _
      unfold callD
      rw [hd]
      simp only
      rw [if_pos (by rw [← r.length]; exact hl)]
    rw [e1] at h
    rw [h1]
    exact runB_ok h
end

/-! ### the end -/
theorem cx_no {P : Program} {w : World} {H : Hp} {s : Shared} {e : Value} {s' : Shared} (h : L2.CX P w [] H s (fun _ _ _ => False) e s') : False := by
  obtain ⟨_, _, _, _, _, _, _, _, _, _, _, _, z⟩ := h
  exact z
theorem walk_D {l : PySem.W.OpenLaw} {m : Nat} {q : Program} {loose : List Str} {XP : (Str → Option Value) → Heap → Prop} {YP : World → Heap → Prop} {d : DefRec} {T : Tb} {x : Str} (n : Nat)
    (hn : l.most = some m) (hn2 : m ≤ sizeLine) (hdf : d.params.defaults = []) (hr : 2 * n + 1 ≤ 200) (hx : d.name = x)
    (F : ∀ (w : World) (mg : Str → Option Value) (h : Heap), YP w h → h.Ns mainGlobals mg → ∃ K : PySem.W.Frag, K.In h ∧ ModOk T w K mg)
    (har : T.arL.lookup x = some 1)
    (law : ∀ ns : List Int, ns.length ≤ m → (∀ k ∈ ns, Builtin.Int.intBits k ≤ 1048576) → ∃ g', (cfN T n).call x [.lst (ns.map D.int)] [] = .ok (.bl true) g') :
    PySem.W.WalkO q loose XP YP l.row.toRowW d [] (fun f vs => PySem.call f vs) := by
  subst hx
  have hroom : Room (2 * n + 1) callerA := Room.mono ⟨rfl, by decide, by decide⟩ hr
  refine Att.attach_callB hn hdf fun w s₀ s₁ mg mb fa o pm cd doc a vs ns G Y ho hd hcd hmg hobj hints hlen hbits hg => ?_
  obtain ⟨K, KX, M⟩ := F w mg _ Y G.T.g
  have har' : (cfN T n).ar d.name = some 1 := by cases n <;> exact har
  obtain ⟨_, hg0, _⟩ := cal_ok' (P := l.prog) M n d.name 1 har'
  have efa : fa = He.ga K d.name := by
    rw [hg0] at hmg
    cases hmg
    rfl
  subst efa
  -- the function object is the same over every base
  have fix : ∃ fd y, (∀ (s : Shared) (u : Value), BindsTo s fd ⟨[u], []⟩ [(y, u)]) ∧ ∀ base : Heap, FnOk l.prog w K mg base (L2.CX l.prog w) (2 * n + 1) (He.ga K d.name) fd [y] (spD K 1 ((cfN T n).call d.name)) := by
    obtain ⟨_, _, fd, ps, e3, e1, e2⟩ := cal_ok' (P := l.prog) M n d.name 1 har'
    obtain ⟨y, rfl⟩ : ∃ y, ps = [y] := by
      cases ps with
      | nil => cases e1
      | cons y r =>
        cases r with
        | nil => exact ⟨y, rfl⟩
        | cons _ _ => cases e1
    exact ⟨fd, y, fun s u => e2 s [u] rfl, e3⟩
  obtain ⟨fd, y, hb, hF⟩ := fix
  refine law_call (sp := spD K 1 ((cfN T n).call d.name)) (CX := L2.CX l.prog w) KX G.T.g G.T.b G.T.builtins G.T.nolimit hg hobj hints (Nat.le_trans hlen hn2) hroom (fun base _ _ => hF base) hb (fun H hO hS => ?_) fun H e s' h => cx_no h
  obtain ⟨g', e⟩ := law ns hlen hbits
  refine ⟨rfl, [], [], [.lst (ns.map D.int)], ⟨rfl, .nil, fun n o a h => by simp at h⟩, .cons (.lst ?_ (RVs.ofInts ns)) .nil, ?_⟩
  · rcases hS with h | h
    · exact .inl ⟨fun ⟨n, o, h1, _⟩ => by simp at h1, h⟩
    · exact .inr h
  · rw [e]
    exact fun mu' H' e' S' v rv => rv.bl_inv
end DL

set_option Elab.async false
set_option linter.all false
set_option maxRecDepth 100000
set_option maxHeartbeats 4000000
/-! the deep layer: what the head tells -/
namespace DL
open PySem PySem.Spec PyProof.Rows L2

theorem zip_lookup : ∀ {ps : List Str} {us : List Value} {x : Str}, us.length = ps.length → x ∈ ps → ((ps.zip us).lookup x).isNone = false
  | [], _, _, _, h => by cases h
  | p :: ps, [], _, hl, _ => by cases hl
  | p :: ps, u :: us, x, hl, h => by
    rw [List.zip_cons_cons, List.lookup_cons]
    cases e : x == p with
    | true => rfl
    | false =>
      rcases List.mem_cons.mp h with q | q
      · subst q
        simp at e
      · exact zip_lookup (by simpa using hl) q
theorem zip_missing {ps : List Str} {us : List Value} (hl : us.length = ps.length) : ps.filter (fun n => ((ps.zip us).lookup n).isNone) = [] := by
  rw [List.filter_eq_nil_iff]
  intro a ha
  rw [zip_lookup hl ha]
  exact Bool.false_ne_true
theorem fm_congr {α β : Type} {f g : α → Option β} : ∀ {l : List α}, (∀ x ∈ l, f x = g x) → l.filterMap f = l.filterMap g
  | [], _ => rfl
  | a :: l, h => by
    rw [List.filterMap_cons, List.filterMap_cons, h a (List.mem_cons_self ..), fm_congr fun x hx => h x (List.mem_cons_of_mem _ hx)]
theorem zip_fm : ∀ {ps : List Str} {us : List Value}, ps.Nodup → us.length = ps.length → ps.filterMap (fun n => Option.map (fun v => (n, v)) (List.lookup n (ps.zip us))) = ps.zip us
  | [], _, _, _ => rfl
  | p :: ps, [], _, hl => by cases hl
  | p :: ps, u :: us, hn, hl => by
    obtain ⟨h1, h2⟩ := List.nodup_cons.mp hn
    rw [List.zip_cons_cons, List.filterMap_cons]
    have e1 : List.lookup p ((p, u) :: ps.zip us) = some u := by simp [List.lookup_cons]
    rw [e1]
    simp only [Option.map_some]
    congr 1
    refine Eq.trans (fm_congr fun n hmem => ?_) (zip_fm h2 (by simpa using hl))
    rw [List.lookup_cons]
    cases e : n == p with
    | true =>
      have := eq_of_beq e
      subst this
      exact absurd hmem h1
    | false => rfl
theorem bind_plain {x q : Str} {args : List Arg} {body : List Stmt} {scope : Scope} {kV doc pm cdv ct : Value} {an : Option Addr} {us : List Value} (hn : (args.map (·.arg)).Nodup) (hl : us.length = (args.map (·.arg)).length) :
    bindArgs (PySem.W.fnOf x q ⟨[], args, none, [], [], none, []⟩ body scope .none kV doc pm an cdv ct) ⟨us, []⟩ = pure ((args.map (·.arg)).zip us) := by
  have hl2 : us.length = args.length := by simpa using hl
  unfold bindArgs PySem.W.fnOf
  have hs : seqItems? .none = pure none := rfl
  have hgt : ¬ (us.length > (args.map (·.arg)).length) := by omega
  simp only [List.map_nil, List.nil_append, hs, List.forIn_nil, pure_bind, Option.getD_none, hgt, List.length_nil, Nat.zero_le, Nat.sub_eq_zero_of_le, List.drop_nil, Nat.sub_zero, List.take_length, List.zip_nil_right, List.append_nil, zip_missing hl, decide_false, Bool.false_and, Bool.false_eq_true, if_false, List.isEmpty_nil, Bool.not_true]
  rw [zip_fm hn hl]

/-! ### values of the module -/
mutual
def conD (K : PySem.W.Frag) : D → Value → Bool
  | .non, .none => true
  | .bl b, .bool c => b == c
  | .int i, .int j _ => decide (i = j)
  | .str x, .str y _ => decide (x = y)
  | .fn x, .ref a => decide (a = He.ga K x)
  | .tup ds, .ref a => (match K.lookup a with
    | some ⟨.type c, _, .seq its _, _⟩ => decide (c = "tuple") && (decide (its.size ≤ sizeLine) && conDs K ds its.toList)
    | _ => false)
  | .lst ds, .ref a => (match K.lookup a with
    | some ⟨.type c, none, .seq its _, _⟩ => decide (c = "list") && (decide (its.size ≤ sizeLine) && conDs K ds its.toList)
    | _ => false)
  | _, _ => false
def conDs (K : PySem.W.Frag) : List D → List Value → Bool
  | [], [] => true
  | d :: ds, u :: us => conD K d u && conDs K ds us
  | _, _ => false
end
mutual
theorem conD_ok {K : PySem.W.Frag} : ∀ {d : D} {u : Value}, conD K d u = true → ∃ v, RelV v u ∧ ∀ own mu H, RV K own mu H v d
  | .non, u, h => by
    cases u <;> simp [conD] at h
    exact ⟨.non, rfl, fun _ _ _ => .non⟩
  | .bl b, u, h => by
    cases u <;> simp [conD] at h
    subst h
    exact ⟨.bl b, rfl, fun _ _ _ => .bl b⟩
  | .int b, u, h => by
    cases u <;> simp [conD] at h
    subst h
    exact ⟨.int b, ⟨_, rfl⟩, fun _ _ _ => .int b⟩
  | .str b, u, h => by
    cases u <;> simp [conD] at h
    subst h
    exact ⟨.str b, ⟨_, rfl⟩, fun _ _ _ => .str b⟩
  | .fn x, u, h => by
    cases u <;> simp [conD] at h
    subst h
    exact ⟨.ref _, rfl, fun _ _ _ => .fn x⟩
  | .tup ds, u, h => by
    cases u with
    | ref a =>
      simp only [conD] at h
      cases e : K.lookup a with
      | none => rw [e] at h; cases h
      | some o =>
        rw [e] at h
        obtain ⟨oc, od, dt, osl⟩ := o
        cases oc with
        | type c =>
          cases dt with
          | seq its n =>
            simp only [Bool.and_eq_true, decide_eq_true_eq] at h
            obtain ⟨h1, h2, h3⟩ := h
            subst h1
            obtain ⟨vs, q1, q2⟩ := conDs_ok h3
            exact ⟨.ref a, rfl, fun own mu H => .tup (.inr ⟨_, its, n, e, rfl, rfl, h2, q1⟩) (q2 own mu H)⟩
          | _ => simp at h
        | _ => simp at h
    | _ => simp [conD] at h
  | .lst ds, u, h => by
    cases u with
    | ref a =>
      simp only [conD] at h
      cases e : K.lookup a with
      | none => rw [e] at h; cases h
      | some o =>
        rw [e] at h
        obtain ⟨oc, od, dt, osl⟩ := o
        cases oc with
        | type c =>
          cases od with
          | none =>
            cases dt with
            | seq its n =>
              simp only [Bool.and_eq_true, decide_eq_true_eq] at h
              obtain ⟨h1, h2, h3⟩ := h
              subst h1
              obtain ⟨vs, q1, q2⟩ := conDs_ok h3
              exact ⟨.ref a, rfl, fun own mu H => .lst (.inr ⟨_, its, n, e, rfl, rfl, rfl, h2, q1⟩) (q2 own mu H)⟩
            | _ => simp at h
          | some _ => cases dt <;> simp at h
        | _ => simp at h
    | _ => simp [conD] at h
  | .dct _ _, u, h => by simp [conD] at h
  | .obj _ _ _, u, h => by simp [conD] at h
  | .ref _, u, h => by simp [conD] at h
theorem conDs_ok {K : PySem.W.Frag} : ∀ {ds : List D} {us : List Value}, conDs K ds us = true → ∃ vs, Vals vs us ∧ ∀ own mu H, RVs K own mu H vs ds
  | [], us, h => by
    cases us <;> simp [conDs] at h
    exact ⟨[], .nil, fun _ _ _ => .nil⟩
  | d :: ds, us, h => by
    cases us with
    | nil => simp [conDs] at h
    | cons u us =>
      simp only [conDs, Bool.and_eq_true] at h
      obtain ⟨v, h1, h2⟩ := conD_ok h.1
      obtain ⟨vs, q1, q2⟩ := conDs_ok h.2
      exact ⟨v :: vs, .cons h1 q1, fun own mu H => .cons (h2 own mu H) (q2 own mu H)⟩
end
/-! ### written dicts -/
def entsB (K : PySem.W.Frag) : List DictEntry → List (Str × D) → Bool
  | [], [] => true
  | e :: es, p :: l => ((match e.key with
    | .str y _ => decide (p.1 = y)
    | _ => false) && conD K p.2 e.val) && entsB K es l
  | _, _ => false
def tabB (K : PySem.W.Frag) (p : Str × List (Str × D)) : Bool := (match List.lookup (He.ga K p.1) K with
  | some o => (match o.data with
    | .dict es _ => entsB K es.toList p.2
    | _ => false)
  | none => false) && (decide (p.2.map (·.1)).Nodup && !(He.ga K p.1 == sysModules))
theorem ents_ok {K : PySem.W.Frag} {w : World} : ∀ {es : List DictEntry} {l : List (Str × D)}, entsB K es l = true → PySem.W.KeysLit w.params es → ∃ lv, KTs w es lv ∧ lv.map (·.1) = l.map (·.1) ∧ ∀ z, (∃ d v, l.lookup z = some d ∧ lv.lookup z = some v ∧ ∀ own mu H, RV K own mu H v d) ∨ (l.lookup z = none ∧ lv.lookup z = none)
  | [], [], _, _ => ⟨[], .nil, rfl, fun z => .inr ⟨rfl, rfl⟩⟩
  | [], _ :: _, h, _ => by simp [entsB] at h
  | _ :: _, [], h, _ => by simp [entsB] at h
  | e :: es, p :: l, h, k => by
    simp only [entsB, Bool.and_eq_true] at h
    obtain ⟨⟨h1, h2⟩, h3⟩ := h
    obtain ⟨⟨x, t, hk, hh⟩, kr⟩ := (show (∃ x t, e.key = Value.str x t ∧ e.hash = PyData.keyHash w.params x) ∧ PySem.W.KeysLit w.params es from k)
    rw [hk] at h1
    simp only [decide_eq_true_eq] at h1
    obtain ⟨v, v1, v2⟩ := conD_ok h2
    obtain ⟨lv, q1, q2, q3⟩ := ents_ok h3 kr
    refine ⟨(x, v) :: lv, .cons ⟨t, hk⟩ hh v1 q1, by simp [q2, h1], fun z => ?_⟩
    obtain ⟨p1, p2⟩ := p
    simp only at h1
    subst h1
    rw [List.lookup_cons, List.lookup_cons]
    cases hz : z == p1 with
    | true => exact .inl ⟨p2, v, rfl, rfl, v2⟩
    | false => exact q3 z
/-! ### the head's table -/
/-- a def: its name, its place in the text, its names by slots, what it does -/
structure Ent where
  name : Str
  at_ : Nat
  N : List Str
  d : Def
structure Mod where
  ents : List Ent
  glob : List (Str × D)
  kd : List (Str × List (Str × D))
  flds : List (Str × List Str)
  free : List Str
  wf : Nat
def Mod.tb (M : Mod) : Tb := ⟨M.ents.map fun e => (e.name, e.d), M.glob, M.kd, M.flds, M.free, M.wf⟩
section
variable (M : Mod) (prog : Program)
def topS (i : Nat) : Stmt := prog.main.body.getD i (.Pass ⟨0, 0, 0, 0⟩)
def Ent.dd (e : Ent) : He.DefD := ⟨(e.name, none), e.name, e.name, defArgs (topS prog e.at_), defBody (topS prog e.at_), defScope (topS prog e.at_), [], []⟩
def Mod.fn : List He.DefD := M.ents.map fun e => e.dd prog
def Mod.fa : List He.Fa := (M.ents.map fun e => .glo e.name) ++ ((M.free.map .free) ++ M.flds.flatMap fun p => .cls p.1 :: p.2.map fun f => .noat p.1 f)
def Mod.ts : List He.Tab := M.kd.map fun p => (fun K => He.ga K p.1, p.2.map (·.1))
def Mod.exB (K : PySem.W.Frag) : Bool := (M.glob.all fun p => match PySem.W.nsIn K mainGlobals p.1 with
    | some (some u) => conD K p.2 u
    | _ => false) &&
  (M.kd.all fun p => tabB K p) && M.kd.all fun p => p.2.all fun q => match PySem.W.nsIn K (He.ga K p.1) q.1 with
    | some (some u) => conD K q.2 u
    | _ => false
/-- plain parameters -/
def argsB : Arguments → Bool
  | ⟨[], _, none, [], [], none, []⟩ => true
  | _ => false
def parsOf (a : Arguments) : List Str := a.args.map (·.arg)
def scB (N ps : List Str) (sc : Scope) : Bool := decide (sc.kind = .function) && (!sc.isCoroutine && (!sc.isGenerator && (decide N.Nodup && (decide (N.take ps.length = ps) && ((ps.all fun x => match sc.names.lookup x with
    | some .local => true
    | some .cell => true
    | _ => false) && sc.names.all fun y => !(y.2 == .free))))))
def entB (T : Tb) (e : Ent) : Bool := argsB (defArgs (topS prog e.at_)) && (decide (parsOf (defArgs (topS prog e.at_))).Nodup && (scB e.N (parsOf (defArgs (topS prog e.at_))) (defScope (topS prog e.at_)) && (decide (e.N.length = e.d.nn) && (decide ((parsOf (defArgs (topS prog e.at_))).length = e.d.ar) &&
  okSs { sc := defScope (topS prog e.at_), N := e.N, fn := fun _ => true, ar := T.arL, free := T.free } e.d.body (defBody (topS prog e.at_))))))
def Mod.okB : Bool := M.ents.all fun e => entB prog M.tb e
end
theorem bind_args {a : Arguments} {x q : Str} {body : List Stmt} {scope : Scope} {kV doc pm cdv ct : Value} {an : Option Addr} {us : List Value} (h : argsB a = true) (hn : (parsOf a).Nodup) (hl : us.length = (parsOf a).length) :
    bindArgs (PySem.W.fnOf x q a body scope .none kV doc pm an cdv ct) ⟨us, []⟩ = pure ((parsOf a).zip us) := by
  unfold argsB at h
  split at h
  · exact bind_plain hn hl
  · cases h
theorem scB_ok {N ps : List Str} {sc : Scope} (h : scB N ps sc = true) : FnScope N ps sc := by
  unfold scB at h
  simp only [Bool.and_eq_true, decide_eq_true_eq, Bool.not_eq_true', List.all_eq_true] at h
  obtain ⟨h1, h2, h3, h4, h5, h6, h7⟩ := h
  refine ⟨h1, h2, h3, h4, h5, fun x hx => ?_, fun y hy e => ?_⟩
  · have := h6 x hx
    split at this
    · exact .inl (by assumption)
    · exact .inr (by assumption)
    · cases this
  · have := h7 y hy
    rw [e] at this
    cases this
theorem lookup_mem {α : Type} {x : Str} {a : α} : ∀ {l : List (Str × α)}, l.lookup x = some a → (x, a) ∈ l
  | [], h => by cases h
  | (y, b) :: l, h => by
    rw [List.lookup_cons] at h
    cases e : x == y with
    | true =>
      rw [e] at h
      cases h
      rw [eq_of_beq e]
      exact List.mem_cons_self ..
    | false =>
      rw [e] at h
      exact List.mem_cons_of_mem _ (lookup_mem h)
theorem mod_ok {M : Mod} {prog : Program} {w : World} {h : Heap} {K : PySem.W.Frag} {mg : Str → Option Value} {tf : List He.Defn} (X : K.In h) (G : h.Ns mainGlobals mg) (c : He.SaysX (M.fa) (M.fn prog) M.ts tf M.exB w h K) (ok : M.okB prog = true) : ModOk M.tb w K mg := by
  have hex := c.more
  unfold Mod.exB at hex
  obtain ⟨x1, x2⟩ := bd2 hex
  obtain ⟨x1, x3⟩ := bd2 x1
  have gl : ∀ x, x ∈ M.ents.map (·.name) → mg x = some (.ref (He.ga K x)) := fun x hx => by
    obtain ⟨e, he, rfl⟩ := List.mem_map.mp hx
    exact He.glo_ok X G (c.t.d.facts (List.mem_append_left _ (List.mem_map.mpr ⟨e, he, rfl⟩)))
  refine ⟨fun x d hd => ?_, fun x d hd => ?_, fun n z d hd => ?_, fun n l hl => ?_, fun C f hf => ?_, fun x hx => ?_⟩
  · have hd := lookup_mem hd
    obtain ⟨e, he, q⟩ := List.mem_map.mp (show (x, d) ∈ M.ents.map fun e => (e.name, e.d) from hd)
    cases q
    obtain ⟨fd, F⟩ := c.t.d.defs (show e.dd prog ∈ M.fn prog from List.mem_map.mpr ⟨e, he, rfl⟩)
    have ek := List.all_eq_true.mp ok e he
    unfold entB at ek
    obtain ⟨k1, k2⟩ := bd2 ek
    obtain ⟨k2, k3⟩ := bd2 k2
    obtain ⟨k3, k4⟩ := bd2 k3
    obtain ⟨k4, k5⟩ := bd2 k4
    obtain ⟨k5, k6⟩ := bd2 k5
    refine ⟨⟨e.name, _, _, _, e.N, parsOf (defArgs (topS prog e.at_)), fd, F, scB_ok k3, of_decide_eq_true k4, of_decide_eq_true k5, fun s us hl => FunD.bindsA F (fun kV doc pm an cdv ct us hl => ?_) s us hl, k6⟩, gl _ (List.mem_map.mpr ⟨e, he, rfl⟩)⟩
    exact bind_args k1 (of_decide_eq_true k2) hl
  · have hd := lookup_mem (show M.glob.lookup x = some d from hd)
    have q := List.all_eq_true.mp x1 _ hd
    simp only at q
    split at q
    · rename_i u e
      obtain ⟨v, q1, q2⟩ := conD_ok q
      exact ⟨u, v, PySem.W.mg_of X G e, q1, q2⟩
    · cases q
  · have hd : (match M.kd.lookup n with
      | some l => l.lookup z
      | none => none) = some d := hd
    split at hd
    · rename_i l hl
      have hl := lookup_mem hl
      have hd := lookup_mem hd
      have q := List.all_eq_true.mp (List.all_eq_true.mp x2 _ hl) _ hd
      simp only at q
      split at q
      · rename_i u e
        obtain ⟨v, q1, q2⟩ := conD_ok q
        obtain ⟨i, hi⟩ := List.mem_iff_getElem?.mp hl
        obtain ⟨es, m, D⟩ := c.t.tab i (t := (fun K => He.ga K n, l.map (·.1))) (by
          show (M.kd.map fun p => ((fun K => He.ga K p.1, p.2.map (·.1)) : He.Tab))[i]? = _
          rw [List.getElem?_map, hi]
          rfl)
        exact ⟨v, ⟨es, m, u, D.at_, D.lit, e, q1⟩, q2⟩
      · cases q
    · cases hd
  · have hl := lookup_mem (show M.kd.lookup n = some l from hl)
    have q := List.all_eq_true.mp x3 _ hl
    unfold tabB at q
    obtain ⟨q1, q2⟩ := bd2 q
    obtain ⟨q2, q3⟩ := bd2 q2
    obtain ⟨i, hi⟩ := List.mem_iff_getElem?.mp hl
    obtain ⟨es, m, D⟩ := c.t.tab i (t := (fun K => He.ga K n, l.map (·.1))) (by
      show (M.kd.map fun p => ((fun K => He.ga K p.1, p.2.map (·.1)) : He.Tab))[i]? = _
      rw [List.getElem?_map, hi]
      rfl)
    have hat := D.at_
    simp only at hat
    rw [hat] at q1
    obtain ⟨lv, l1, l2, l3⟩ := ents_ok q1 D.lit
    exact ⟨lv, ⟨⟨es, m, hat, l1⟩, by rw [l2]; exact of_decide_eq_true q2, by simpa using q3⟩, l3⟩
  · have hf : (match M.flds.lookup C with
      | some fs => fs.contains f
      | none => false) = true := hf
    split at hf
    · rename_i fs hfs
      have hm := lookup_mem hfs
      have hf : f ∈ fs := by simpa using hf
      refine ⟨He.cls_ok (c.t.d.facts (List.mem_append_right _ (List.mem_append_right _ (List.mem_flatMap.mpr ⟨_, hm, List.mem_cons_self ..⟩)))), He.noat_ok (c.t.d.facts (List.mem_append_right _ (List.mem_append_right _ (List.mem_flatMap.mpr ⟨_, hm, List.mem_cons_of_mem _ (List.mem_map.mpr ⟨f, hf, rfl⟩)⟩))))⟩
    · cases hf
  · exact He.free_ok X G (c.t.d.facts (List.mem_append_right _ (List.mem_append_left _ (List.mem_map.mpr ⟨x, hx, rfl⟩))))
end DL

set_option Elab.async false
set_option linter.all false
set_option maxRecDepth 100000
set_option maxHeartbeats 4000000
/-! the deep layer: what a run comes to, by wishes -/
namespace DL
open PySem PySem.Spec L2

@[irreducible] def Ok {α : Type} (r : R α) (Q : α → G → Prop) (E : Exn → G → Prop) : Prop := match r with
  | .ok a g => Q a g
  | .ex e g => E e g
  | .bad => False
@[irreducible] def OO {α : Type} (o : Option α) (Q : α → Prop) : Prop := match o with
  | some a => Q a
  | none => False
def Never : Exn → G → Prop := fun _ _ => False
theorem Ok_congr {α : Type} {r r' : R α} {Q : α → G → Prop} {E : Exn → G → Prop} (h : r = r') : Ok r Q E = Ok r' Q E := by rw [h]
theorem OO_congr {α : Type} {r r' : Option α} {Q : α → Prop} (h : r = r') : OO r Q = OO r' Q := by rw [h]
section
variable {α β : Type} {Q Q' : α → G → Prop} {E E' : Exn → G → Prop} {g : G}
theorem Ok_ok {a : α} : Ok (.ok a g) Q E = Q a g := by with_unfolding_all rfl
theorem Ok_bad : Ok (.bad : R α) Q E = False := by with_unfolding_all rfl
theorem Ok_ex {e : Exn} : Ok (.ex e g : R α) Q E = E e g := by with_unfolding_all rfl
theorem Ok.mono {r : R α} (h : Ok r Q E) (hq : ∀ a g, Q a g → Q' a g) (he : ∀ e g, E e g → E' e g) : Ok r Q' E' := by
  cases r with
  | ok a g => rw [Ok_ok] at h ⊢; exact hq a g h
  | ex e g => rw [Ok_ex] at h ⊢; exact he e g h
  | bad => rw [Ok_bad] at h; exact h.elim
theorem Ok.to {r : R α} (h : Ok r Q Never) (hq : ∀ a g, Q a g → Q' a g) : Ok r Q' E' := h.mono hq fun _ _ z => z.elim
theorem Ok.get {r : R α} (h : Ok r Q Never) : ∃ a g, r = .ok a g ∧ Q a g := by
  cases r with
  | ok a g => rw [Ok_ok] at h; exact ⟨a, g, rfl, h⟩
  | ex e g => rw [Ok_ex] at h; exact h.elim
  | bad => rw [Ok_bad] at h; exact h.elim
theorem Ok.of {r : R α} {a : α} (e : r = .ok a g) (h : Q a g) : Ok r Q E := by rw [e, Ok_ok]; exact h
theorem Ok_bind {r : R β} {k : β → M α} : Ok (r.bind k) Q E = Ok r (fun a g => Ok (k a g) Q E) E := by cases r <;> with_unfolding_all rfl
theorem Ok_bindM {m : M β} {k : β → M α} : Ok ((m >>= k) g) Q E = Ok (m g) (fun a g => Ok (k a g) Q E) E := Ok_bind
theorem Ok_pure {a : α} : Ok ((pure a : M α) g) Q E = Q a g := by with_unfolding_all rfl
theorem Ok_badM : Ok ((M.bad : M α) g) Q E = False := by with_unfolding_all rfl
theorem Ok_optM {o : Option α} : Ok (optM o g) Q E = OO o fun a => Q a g := by cases o <;> with_unfolding_all rfl
theorem Ok_needM {c : Prop} [Decidable c] {Q : Unit → G → Prop} : Ok (needM c g) Q E = (c ∧ Q () g) := by
  unfold needM
  by_cases h : c
  · rw [if_pos h]; simp only [h, true_and]; with_unfolding_all rfl
  · rw [if_neg h]; simp only [h, false_and]; with_unfolding_all rfl
theorem Ok_noEx {m : M α} : Ok (noEx m g) Q E = Ok (m g) Q Never := by
  unfold noEx
  cases m g <;> with_unfolding_all rfl
theorem OO_some {a : α} {Q : α → Prop} : OO (some a) Q = Q a := by with_unfolding_all rfl
theorem OO_none {Q : α → Prop} : OO (none : Option α) Q = False := by with_unfolding_all rfl
theorem OO_map {f : β → α} {o : Option β} {Q : α → Prop} : OO (o.map f) Q = OO o fun b => Q (f b) := by cases o <;> with_unfolding_all rfl
end
section
variable {cf : Cf} {Q : D → G → Prop} {E : Exn → G → Prop} {g : G} {ρ : Env'} {a b c e : DL.E} {es : Es}
theorem o_v {i : Nat} : Ok (evE cf (.v i) ρ g) Q E = OO (slot ρ i) fun d => Q d g := by simp only [evE, Ok_optM]
theorem o_non : Ok (evE cf .non ρ g) Q E = Q .non g := by simp only [evE, Ok_pure]
theorem o_bl {b : Bool} : Ok (evE cf (.bl b) ρ g) Q E = Q (.bl b) g := by simp only [evE, Ok_pure]
theorem o_int {b : Int} : Ok (evE cf (.int b) ρ g) Q E = Q (.int b) g := by simp only [evE, Ok_pure]
theorem o_str {b : Str} : Ok (evE cf (.str b) ρ g) Q E = Q (.str b) g := by simp only [evE, Ok_pure]
theorem cfN_glob {T : Tb} {n : Nat} {x : Str} : (cfN T n).glob x = T.glob.lookup x := by cases n <;> with_unfolding_all rfl
theorem cfN_kd {T : Tb} {n : Nat} : (cfN T n).kd = T.kdL := by cases n <;> with_unfolding_all rfl
theorem cfN_ar {T : Tb} {n : Nat} {x : Str} : (cfN T n).ar x = T.arL.lookup x := by cases n <;> with_unfolding_all rfl
theorem cfN_fld {T : Tb} {n : Nat} : (cfN T n).fld = T.fld := by cases n <;> with_unfolding_all rfl
theorem cfN_wf {T : Tb} {n : Nat} : (cfN T n).wf = T.wf := by cases n <;> with_unfolding_all rfl
theorem o_gl {T : Tb} {n : Nat} {x : Str} : Ok (evE (cfN T n) (.gl x) ρ g) Q E = OO (T.glob.lookup x) fun d => Q d g := by simp only [evE, Ok_optM, cfN_glob]
theorem o_tup : Ok (evE cf (.tup es) ρ g) Q E = Ok (evEs cf es ρ g) (fun ds g => ds.length ≤ sizeLine ∧ Q (.tup ds) g) E := by simp only [evE, Ok_bindM, Ok_needM, Ok_pure]
theorem o_lstT : Ok (evE cf (.lst true es) ρ g) Q E = Ok (evEs cf es ρ g) (fun ds g => ds.length ≤ sizeLine ∧ Q (.lst ds) g) E := by simp only [evE, Ok_bindM, Ok_needM, mkL, Ok_pure]
theorem o_lstF : Ok (evE cf (.lst false es) ρ g) Q E = Ok (evEs cf es ρ g) (fun ds g => ds.length ≤ sizeLine ∧ Q (.ref g.length) (g ++ [.lst ds])) E := by simp only [evE, Ok_bindM, Ok_needM, mkL, alloc, Ok_ok]
theorem o_dct {fz : Bool} {ps : Ps} : Ok (evE cf (.dct fz ps) ρ g) Q E = Ok (evPs cf ps ρ (g ++ [.dct [] []])) (fun ps g' => ps.length ≤ 15 ∧ Ok (setDctM g.length fz ps g') Q E) E := by simp only [evE, Ok_bindM, Ok_needM, newDct, Ok_ok]
theorem o_bin {op : Op2} : Ok (evE cf (.bin op a b) ρ g) Q E = Ok (evE cf a ρ g) (fun x g => Ok (evE cf b ρ g) (fun y g => OO (op2 op (rd g x) (rd g y)) fun z => Q z g) E) E := by simp only [evE, Ok_bindM, Ok_optM, rdM, Ok_ok]
theorem o_neg : Ok (evE cf (.neg a) ρ g) Q E = Ok (evE cf a ρ g) (fun x g => match x with
    | .int i => Q (.int (-i)) g
    | _ => False) E := by
  simp only [evE, Ok_bindM]
  congr 1
  funext x g
  cases x <;> with_unfolding_all rfl
theorem o_not : Ok (evE cf (.not a) ρ g) Q E = Ok (evE cf a ρ g) (fun x g => OO (truD (rd g x)) fun b => Q (.bl (!b)) g) E := by simp only [evE, Ok_bindM, Ok_optM, rdM, Ok_ok, Ok_pure]
theorem o_and : Ok (evE cf (.and es) ρ g) Q E = Ok (evAnd cf es ρ g) Q E := by simp only [evE]
theorem o_or : Ok (evE cf (.or es) ρ g) Q E = Ok (evOr cf es ρ g) Q E := by simp only [evE]
theorem o_and1 : Ok (evAnd cf (.cons e .nil) ρ g) Q E = Ok (evE cf e ρ g) Q E := by simp only [evAnd]
theorem o_or1 : Ok (evOr cf (.cons e .nil) ρ g) Q E = Ok (evE cf e ρ g) Q E := by simp only [evOr]
theorem o_and2 {e2 : DL.E} : Ok (evAnd cf (.cons e (.cons e2 es)) ρ g) Q E = Ok (evE cf e ρ g) (fun x g => OO (truD (rd g x)) fun b => if b then Ok (evAnd cf (.cons e2 es) ρ g) Q E else Q x g) E := by
  have h : evAnd cf (.cons e (.cons e2 es)) ρ = (do
    let x ← evE cf e ρ
    let y ← rdM x
    let b ← optM (truD y)
    if b then evAnd cf (.cons e2 es) ρ else pure x) := by simp only [evAnd]
  rw [h]
  simp only [Ok_bindM, Ok_optM, rdM, Ok_ok]
  congr 1
  funext x g
  congr 1
  funext k
  cases k <;> with_unfolding_all rfl
theorem o_or2 {e2 : DL.E} : Ok (evOr cf (.cons e (.cons e2 es)) ρ g) Q E = Ok (evE cf e ρ g) (fun x g => OO (truD (rd g x)) fun b => if b then Q x g else Ok (evOr cf (.cons e2 es) ρ g) Q E) E := by
  have h : evOr cf (.cons e (.cons e2 es)) ρ = (do
    let x ← evE cf e ρ
    let y ← rdM x
    let b ← optM (truD y)
    if b then pure x else evOr cf (.cons e2 es) ρ) := by simp only [evOr]
  rw [h]
  simp only [Ok_bindM, Ok_optM, rdM, Ok_ok]
  congr 1
  funext x g
  congr 1
  funext k
  cases k <;> with_unfolding_all rfl
theorem o_cmp {op : Cp} : Ok (evE cf (.cmp op a b) ρ g) Q E = Ok (evE cf a ρ g) (fun x g => Ok (evE cf b ρ g) (fun y g => OO (cmpD op (rd g x) (rd g y)) fun z => Q (.bl z) g) E) E := by simp only [evE, Ok_bindM, Ok_optM, rdM, Ok_ok, Ok_pure]
theorem o_cmp2 {op op' : Cp} : Ok (evE cf (.cmp2 op op' a b c) ρ g) Q E = Ok (evE cf a ρ g) (fun x g => Ok (evE cf b ρ g) (fun y g => OO (cmpD op (rd g x) (rd g y)) fun k =>
    if k then Ok (evE cf c ρ g) (fun z g => OO (cmpD op' (rd g y) (rd g z)) fun k => Q (.bl k) g) E else Q (.bl false) g) E) E := by
  simp only [evE, Ok_bindM, Ok_optM, rdM, Ok_ok]
  congr 1
  funext x g
  congr 1
  funext y g
  congr 1
  funext k
  cases k
  · with_unfolding_all rfl
  · simp only [if_true, Ok_bindM, Ok_optM, rdM, Ok_ok, Ok_pure]
theorem o_isn : Ok (evE cf (.isn a) ρ g) Q E = Ok (evE cf a ρ g) (fun x g => Q (.bl (match x with | .non => true | _ => false)) g) E := by
  simp only [evE, Ok_bindM]
  congr 1
  funext x g
  cases x <;> with_unfolding_all rfl
theorem o_notn : Ok (evE cf (.notn a) ρ g) Q E = Ok (evE cf a ρ g) (fun x g => Q (.bl (match x with | .non => false | _ => true)) g) E := by
  simp only [evE, Ok_bindM]
  congr 1
  funext x g
  cases x <;> with_unfolding_all rfl
theorem o_ite : Ok (evE cf (.ite c a b) ρ g) Q E = Ok (evE cf c ρ g) (fun x g => OO (truD (rd g x)) fun k => if k then Ok (evE cf a ρ g) Q E else Ok (evE cf b ρ g) Q E) E := by
  simp only [evE, Ok_bindM, Ok_optM, rdM, Ok_ok]
  congr 1
  funext x g
  congr 1
  funext k
  cases k <;> with_unfolding_all rfl
theorem o_ix {T : Tb} {n : Nat} : Ok (evE (cfN T n) (.ix a b) ρ g) Q E = Ok (evE (cfN T n) a ρ g) (fun x g => Ok (evE (cfN T n) b ρ g) (fun y g => OO (ixD T.kdL (rd g x) (rd g y)) fun z => Q z g) E) E := by simp only [evE, Ok_bindM, Ok_optM, rdM, Ok_ok, cfN_kd]
theorem o_sl {lo hi : Es} : Ok (evE cf (.sl a lo hi) ρ g) Q E = Ok (evE cf a ρ g) (fun x g => Ok (evPart cf lo ρ g) (fun l g => Ok (evPart cf hi ρ g) (fun h g => OO (slD (rd g x) l h) fun z => Q z g) E) E) E := by simp only [evE, Ok_bindM, Ok_optM, rdM, Ok_ok]
theorem o_fld {T : Tb} {n : Nat} {f : Str} : Ok (evE (cfN T n) (.fld a f) ρ g) Q E = Ok (evE (cfN T n) a ρ g) (fun x g => Ok (fldM T.fld x f g) Q E) E := by simp only [evE, Ok_bindM, cfN_fld]
theorem o_call {f : Str} : Ok (evE cf (.call f es) ρ g) Q E = Ok (evEs cf es ρ g) (fun ds g => Ok (cf.call f ds g) Q E) E := by simp only [evE, Ok_bindM]
theorem o_callv {T : Tb} {n : Nat} {i : Nat} : Ok (evE (cfN T n) (.callv i es) ρ g) Q E = OO (slot ρ i) fun f => match f with
    | .fn x => T.arL.lookup x = some es.len ∧ Ok (evEs (cfN T n) es ρ g) (fun ds g => Ok ((cfN T n).call x ds g) Q E) E
    | _ => False := by
  simp only [evE, Ok_bindM, Ok_optM]
  congr 1
  funext x
  cases x <;> first | with_unfolding_all rfl | skip
  simp only [Ok_bindM, Ok_needM, cfN_ar]
theorem o_bi {b : Bi} : Ok (evE cf (.bi b es) ρ g) Q E = Ok (evEs cf es ρ g) (fun ds g => Ok (biM b ds g) Q E) E := by simp only [evE, Ok_bindM]
theorem o_mt {m : Mt} {o : DL.E} : Ok (evE cf (.mt m o es) ρ g) Q E = Ok (evE cf o ρ g) (fun x g => mtOk m (rd g x) = true ∧ Ok (evEs cf es ρ g) (fun ds g => Ok (mtM m x ds g) Q E) E) E := by simp only [evE, Ok_bindM, Ok_needM, rdM, Ok_ok]
theorem cfN_kt {T : Tb} {n : Nat} {x : Str} : (cfN T n).kt x = T.kd.lookup x := by cases n <;> with_unfolding_all rfl
theorem o_kget {T : Tb} {n : Nat} {o : DL.E} : Ok (evE (cfN T n) (.kget o es) ρ g) Q E = Ok (evE (cfN T n) o ρ g) (fun x g => match x with
    | .fn m => OO (T.kd.lookup m) fun l => Ok (evEs (cfN T n) es ρ g) (fun ds g => Ok (ktM l ds g) Q E) E
    | _ => False) E := by
  simp only [evE, Ok_bindM]
  congr 1
  funext x g
  cases x <;> first | with_unfolding_all rfl | skip
  rename_i m
  simp only [cfN_kt]
  cases T.kd.lookup m with
  | none => simp only [OO_none, Ok_badM]
  | some l => simp only [OO_some, Ok_bindM]
theorem k_str1 {l : List (Str × D)} {z : Str} : Ok (ktM l [.str z] g) Q E = Q ((l.lookup z).getD .non) g := by with_unfolding_all rfl
theorem o_isi {ts : List Ty} {many : Bool} : Ok (evE cf (.isi a ts many) ρ g) Q E = Ok (evE cf a ρ g) (fun x g => OO (isiAny (rd g x) ts) fun b => Q (.bl b) g) E := by simp only [evE, Ok_bindM, Ok_optM, rdM, Ok_ok, Ok_pure]
theorem o_lc {fz : Bool} {own : List Nat} {elt : DL.E} {t : Tg} {it : DL.I} {ifs : Es} : Ok (evE cf (.lc fz own elt t it ifs) ρ g) Q E = Ok (evI cf it ρ g) (fun i g => Ok (loopC i g.length (fun d => do
      let ρ1 ← asgT cf t d (wipeE ρ own)
      let k ← evIfs cf ifs ρ1
      if k then do
        let y ← evE cf elt ρ1
        pure (some y)
      else pure none) (i.len (g ++ [.lst []])) 0 (g ++ [.lst []])) (fun _ g' => Ok (endL fz g.length g') Q E) E) E := by simp only [evE, Ok_bindM, newL, Ok_ok]
end
section
variable {cf : Cf} {E : Exn → G → Prop} {g : G} {ρ : Env'} {a b e : DL.E} {es : Es}
theorem o_nil {Q : List D → G → Prop} : Ok (evEs cf .nil ρ g) Q E = Q [] g := by simp only [evEs, Ok_pure]
theorem o_cons {Q : List D → G → Prop} : Ok (evEs cf (.cons e es) ρ g) Q E = Ok (evE cf e ρ g) (fun x g => Ok (evEs cf es ρ g) (fun xs g => Q (x :: xs) g) E) E := by simp only [evEs, Ok_bindM, Ok_pure]
theorem o_pnil {Q : List (D × D) → G → Prop} : Ok (evPs cf .nil ρ g) Q E = Q [] g := by simp only [evPs, Ok_pure]
theorem o_pcons {k v : DL.E} {ps : Ps} {Q : List (D × D) → G → Prop} : Ok (evPs cf (.cons k v ps) ρ g) Q E = Ok (evE cf k ρ g) (fun x g => Ok (evE cf v ρ g) (fun y g => Ok (evPs cf ps ρ g) (fun xs g => Q ((x, y) :: xs) g) E) E) E := by simp only [evPs, Ok_bindM, Ok_pure]
theorem o_part0 {Q : Option Int → G → Prop} : Ok (evPart cf .nil ρ g) Q E = Q none g := by simp only [evPart, Ok_pure]
theorem o_part1 {Q : Option Int → G → Prop} : Ok (evPart cf (.cons e .nil) ρ g) Q E = Ok (evE cf e ρ g) (fun x g => match x with
    | .int i => Q (some i) g
    | _ => False) E := by
  simp only [evPart, Ok_bindM]
  congr 1
  funext x g
  cases x <;> with_unfolding_all rfl
theorem o_T {Q : Bool → G → Prop} : Ok (evT cf e ρ g) Q E = Ok (evE cf e ρ g) (fun x g => OO (truD (rd g x)) fun b => Q b g) E := by simp only [evT, evTM, Ok_bindM, Ok_optM, rdM, Ok_ok]
theorem o_ifs0 {Q : Bool → G → Prop} : Ok (evIfs cf .nil ρ g) Q E = Q true g := by simp only [evIfs, Ok_pure]
theorem o_ifs1 {Q : Bool → G → Prop} : Ok (evIfs cf (.cons e .nil) ρ g) Q E = Ok (evE cf e ρ g) (fun x g => OO (truD (rd g x)) fun b => Q b g) E := by rw [evIfs_one, o_T]
variable {Q : Env' → G → Prop} {d : D}
theorem o_tg {i : Nat} : Ok (asgT cf (.v i) d ρ g) Q E = Q (ρ.set i (some d)) g := by simp only [asgT, Ok_pure]
theorem o_tgT {ts : Tgs} : Ok (asgT cf (.tup ts) d ρ g) Q E = OO (itemsD (rd g d)) fun ds => ds.length = ts.len ∧ Ok (asgTs cf ts ds ρ g) Q E := by simp only [asgT, Ok_bindM, Ok_optM, Ok_needM, rdM, Ok_ok]
theorem o_tgI : Ok (asgT cf (.ix a b) d ρ g) Q E = Ok (evE cf a ρ g) (fun x g => Ok (evE cf b ρ g) (fun y g => Ok (setItemM x y d g) (fun _ g => Q ρ g) E) E) E := by simp only [asgT, Ok_bindM, Ok_pure]
theorem o_tgF {T : Tb} {n : Nat} {f : Str} : Ok (asgT (cfN T n) (.fld a f) d ρ g) Q E = Ok (evE (cfN T n) a ρ g) (fun x g => Ok (setFldM T.fld x f d g) (fun _ g => Q ρ g) E) E := by simp only [asgT, Ok_bindM, Ok_pure, cfN_fld]
theorem o_tgn : Ok (asgTs cf .nil [] ρ g) Q E = Q ρ g := by simp only [asgTs, Ok_pure]
theorem o_tgc {t : Tg} {ts : Tgs} {ds : List D} : Ok (asgTs cf (.cons t ts) (d :: ds) ρ g) Q E = Ok (asgT cf t d ρ g) (fun ρ g => Ok (asgTs cf ts ds ρ g) Q E) E := by simp only [asgTs, Ok_bindM]
variable {QI : It0 → G → Prop}
theorem o_I : Ok (evI cf (.e a) ρ g) QI E = Ok (evE cf a ρ g) (fun x g => OO (itOf g x) fun it => QI it g) E := by
  simp only [evI, Ok_bindM]
  congr 1
  funext x g
  unfold itM
  cases itOf g x <;> with_unfolding_all rfl
theorem o_rng1 : Ok (evI cf (.rng1 a) ρ g) QI E = Ok (evE cf a ρ g) (fun x g => match x with
    | .int j => (-(2 ^ 62) ≤ j ∧ j < 2 ^ 62) ∧ QI (.fix (rngD 0 j)) g
    | _ => False) E := by
  simp only [evI, Ok_bindM]
  congr 1
  funext x g
  cases x <;> first | with_unfolding_all rfl | skip
  simp only [Ok_bindM, Ok_needM, Ok_pure]
theorem o_rng2 : Ok (evI cf (.rng2 a b) ρ g) QI E = Ok (evE cf a ρ g) (fun x g => Ok (evE cf b ρ g) (fun y g => match x, y with
    | .int i, .int j => (-(2 ^ 62) ≤ i ∧ i < 2 ^ 62 ∧ -(2 ^ 62) ≤ j ∧ j < 2 ^ 62) ∧ QI (.fix (rngD i j)) g
    | _, _ => False) E) E := by
  simp only [evI, Ok_bindM]
  congr 1
  funext x g
  congr 1
  funext y g
  cases x <;> first | with_unfolding_all rfl | skip
  cases y <;> first | with_unfolding_all rfl | skip
  simp only [Ok_bindM, Ok_needM, Ok_pure]
theorem o_enum : Ok (evI cf (.enum a) ρ g) QI E = Ok (evE cf a ρ g) (fun x g => match x with
    | .lst ds => QI (.fix (enumD ds)) g
    | _ => False) E := by
  simp only [evI, Ok_bindM]
  congr 1
  funext x g
  cases x <;> with_unfolding_all rfl
theorem o_zip : Ok (evI cf (.zip a b) ρ g) QI E = Ok (evE cf a ρ g) (fun x g => Ok (evE cf b ρ g) (fun y g => match x, y with
    | .lst xs, .lst ys => QI (.fix (zipD xs ys)) g
    | .tup xs, .tup ys => QI (.fix (zipD xs ys)) g
    | _, _ => False) E) E := by
  simp only [evI, Ok_bindM]
  congr 1
  funext x g
  congr 1
  funext y g
  cases x <;> first | with_unfolding_all rfl | (cases y <;> with_unfolding_all rfl)
theorem o_items : Ok (evI cf (.items a) ρ g) QI E = Ok (evE cf a ρ g) (fun x g => match x with
    | .dct ks vs => QI (.fix (zipD ks vs)) g
    | _ => False) E := by
  simp only [evI, Ok_bindM]
  congr 1
  funext x g
  cases x <;> with_unfolding_all rfl
theorem o_vals : Ok (evI cf (.vals a) ρ g) QI E = Ok (evE cf a ρ g) (fun x g => match x with
    | .dct _ vs => QI (.fix vs) g
    | _ => False) E := by
  simp only [evI, Ok_bindM]
  congr 1
  funext x g
  cases x <;> with_unfolding_all rfl
end
/-! statements -/
def thenS (cf : Cf) (ss : Ss) (Q : Fl × Env' → G → Prop) (E : Exn → G → Prop) : Fl × Env' → G → Prop
  | (.nx, ρ), g => Ok (evSs cf ss ρ g) Q E
  | x, g => Q x g
def retS (Q : D → G → Prop) (E : Exn → G → Prop) : Fl × Env' → G → Prop
  | (.rt d, _), g => Q d g
  | (.nx, _), g => Q .non g
  | (.rs e, _), g => E e g
  | _, _ => False
section
variable {cf : Cf} {Q : Fl × Env' → G → Prop} {E : Exn → G → Prop} {g : G} {ρ : Env'} {a b e : DL.E} {es : Es} {ss : Ss} {s : DL.S}
theorem Ok_liftS {α : Type} {m : M α} {k : α → M (Fl × Env')} : Ok (liftS ρ m k g) Q E = Ok (m g) (fun a g => Ok (k a g) Q E) (fun e g => Q (.rs e, ρ) g) := by
  unfold liftS
  cases m g <;> with_unfolding_all rfl
theorem o_ssn : Ok (evSs cf .nil ρ g) Q E = Q (.nx, ρ) g := by simp only [evSs, Ok_pure]
theorem o_ssc : Ok (evSs cf (.cons s ss) ρ g) Q E = Ok (evS cf s ρ g) (thenS cf ss Q E) E := by
  simp only [evSs]
  unfold seqS
  rw [Ok_bind]
  congr 1
  funext x g
  obtain ⟨f, ρ⟩ := x
  cases f <;> with_unfolding_all rfl
theorem th_nx : thenS cf ss Q E (.nx, ρ) g = Ok (evSs cf ss ρ g) Q E := by with_unfolding_all rfl
theorem th_bk : thenS cf ss Q E (.bk, ρ) g = Q (.bk, ρ) g := by with_unfolding_all rfl
theorem th_ct : thenS cf ss Q E (.ct, ρ) g = Q (.ct, ρ) g := by with_unfolding_all rfl
theorem th_rt {d : D} : thenS cf ss Q E (.rt d, ρ) g = Q (.rt d, ρ) g := by with_unfolding_all rfl
theorem th_rs {x : Exn} : thenS cf ss Q E (.rs x, ρ) g = Q (.rs x, ρ) g := by with_unfolding_all rfl
theorem rt_rt {Q : D → G → Prop} {d : D} : retS Q E (.rt d, ρ) g = Q d g := by with_unfolding_all rfl
theorem rt_nx {Q : D → G → Prop} : retS Q E (.nx, ρ) g = Q .non g := by with_unfolding_all rfl
theorem rt_rs {Q : D → G → Prop} {x : Exn} : retS Q E (.rs x, ρ) g = E x g := by with_unfolding_all rfl
theorem o_ex : Ok (evS cf (.ex a) ρ g) Q E = Ok (evE cf a ρ g) (fun _ g => Q (.nx, ρ) g) (fun e g => Q (.rs e, ρ) g) := by simp only [evS, Ok_liftS, Ok_pure]
theorem o_ret : Ok (evS cf (.ret a) ρ g) Q E = Ok (evE cf a ρ g) (fun d g => Q (.rt d, ρ) g) (fun e g => Q (.rs e, ρ) g) := by simp only [evS, Ok_liftS, Ok_pure]
theorem o_retn : Ok (evS cf .retn ρ g) Q E = Q (.rt .non, ρ) g := by simp only [evS, Ok_pure]
theorem o_asg {t : Tg} : Ok (evS cf (.asg t a) ρ g) Q E = Ok (evE cf a ρ g) (fun d g => Ok (asgT cf t d ρ g) (fun ρ g => Q (.nx, ρ) g) Never) (fun e g => Q (.rs e, ρ) g) := by simp only [evS, Ok_liftS, Ok_bindM, Ok_noEx, Ok_pure]
theorem o_par {is : List Nat} : Ok (evS cf (.par is es) ρ g) Q E = Ok (evEs cf es ρ g) (fun ds g => OO (parSet is ds ρ) fun ρ => Q (.nx, ρ) g) (fun e g => Q (.rs e, ρ) g) := by
  simp only [evS, Ok_liftS]
  congr 1
  funext ds g
  cases parSet is ds ρ <;> with_unfolding_all rfl
theorem o_augv {i : Nat} {op : Op2} : Ok (evS cf (.augv i op a) ρ g) Q E = OO (slot ρ i) fun x => Ok (evE cf a ρ g) (fun y g => OO (aug2 op (rd g x) (rd g y)) fun z => Q (.nx, ρ.set i (some z)) g) (fun e g => Q (.rs e, ρ) g) := by
  simp only [evS, Ok_liftS, Ok_bindM, Ok_optM, rdM, Ok_ok, Ok_pure]
theorem o_iff {xs ys : Ss} : Ok (evS cf (.iff a xs ys) ρ g) Q E = Ok (evE cf a ρ g) (fun x g => OO (truD (rd g x)) fun k => if k then Ok (evSs cf xs ρ g) Q E else Ok (evSs cf ys ρ g) Q E) (fun e g => Q (.rs e, ρ) g) := by
  simp only [evS, Ok_liftS, o_T]
  congr 1
  funext x g
  congr 1
  funext k
  cases k <;> with_unfolding_all rfl
theorem o_for {t : Tg} {it : DL.I} {xs : Ss} : Ok (evS cf (.forr t it xs) ρ g) Q E = Ok (evI cf it ρ g) (fun i g => Ok (loopS i (fun d ρ => do
      let ρ1 ← noEx (asgT cf t d ρ)
      evSs cf xs ρ1) (i.len g) 0 ρ g) Q E) (fun e g => Q (.rs e, ρ) g) := by simp only [evS, Ok_liftS]
theorem o_whl {xs : Ss} : Ok (evS cf (.whl a xs) ρ g) Q E = Ok (whileS (evT cf a) (evSs cf xs) cf.wf ρ g) Q E := by simp only [evS]
theorem o_brk : Ok (evS cf .brk ρ g) Q E = Q (.bk, ρ) g := by simp only [evS, Ok_pure]
theorem o_cnt : Ok (evS cf .cnt ρ g) Q E = Q (.ct, ρ) g := by simp only [evS, Ok_pure]
theorem o_pas : Ok (evS cf .pas ρ g) Q E = Q (.nx, ρ) g := by simp only [evS, Ok_pure]
theorem o_frz {i : Nat} : Ok (evS cf (.frz i) ρ g) Q E = OO (slot ρ i) fun d => Ok (frzM d g) (fun d' g => Q (.nx, ρ.set i (some d')) g) (fun e g => Q (.rs e, ρ) g) := by simp only [evS, Ok_liftS, Ok_bindM, Ok_optM, Ok_pure]
/-- a call of a def of the table -/
theorem call_def {T : Tb} {n : Nat} {f : Str} {d : Def} {ds : List D} {Q : D → G → Prop} {E : Exn → G → Prop} (h : T.defs.lookup f = some d) (hl : ds.length = d.ar) : Ok ((cfN T (n + 1)).call f ds g) Q E = Ok (evSs (cfN T n) d.body (start0 d.nn ds) g) (retS Q E) Never := by
  have e : (cfN T (n + 1)).call f ds g = runB (evSs (cfN T n) d.body (start0 d.nn ds) g) := by
    show callD T (evSs (cfN T n)) f ds g = _
    unfold callD
    rw [h]
    simp only
    rw [if_pos hl]
  rw [e]
  unfold runB
  cases evSs (cfN T n) d.body (start0 d.nn ds) g with
  | ok x g =>
    obtain ⟨f, ρ⟩ := x
    cases f <;> with_unfolding_all rfl
  | _ => with_unfolding_all rfl
/-! loops -/
theorem loop_ok0 {ds : List D} {body : D → Env' → M (Fl × Env')} (Inv : Nat → Env' → G → Prop)
    (step : ∀ i d ρ g, ds[i]? = some d → Inv i ρ g → Ok (body d ρ g) (fun x g => match x with
      | (.nx, ρ) => Inv (i + 1) ρ g
      | (.ct, ρ) => Inv (i + 1) ρ g
      | (.bk, ρ) => Q (.nx, ρ) g
      | x => Q x g) E) (fin : ∀ ρ g, Inv ds.length ρ g → Q (.nx, ρ) g) : ∀ (k i : Nat) (ρ : Env') (g : G), i + k = ds.length → Inv i ρ g → Ok (loopS (.fix ds) body k i ρ g) Q E := by
  intro k
  induction k with
  | zero =>
    intro i ρ g hk hi
    have hi' : i = ds.length := by omega
    subst hi'
    simp only [loopS, It0.at, List.getElem?_eq_none (Nat.le_refl _)]
    show Ok (.ok (.nx, ρ) g) Q E
    rw [Ok_ok]
    exact fin ρ g hi
  | succ k ih =>
    intro i ρ g hk hi
    have hlt : i < ds.length := by omega
    have e : ds[i]? = some ds[i] := List.getElem?_eq_getElem hlt
    simp only [loopS, It0.at, e, Ok_bind]
    refine (step i _ ρ g e hi).mono (fun x g h => ?_) fun _ _ h => h
    obtain ⟨f, ρ⟩ := x
    cases f with
    | nx => exact ih (i + 1) ρ g (by omega) h
    | ct => exact ih (i + 1) ρ g (by omega) h
    | bk => exact Ok.of rfl h
    | rt d => exact Ok.of rfl h
    | rs x => exact Ok.of rfl h
/-- a loop over what stands: an invariant by the turn -/
theorem loop_fix {ds : List D} {body : D → Env' → M (Fl × Env')} (Inv : Nat → Env' → G → Prop) (h0 : Inv 0 ρ g)
    (step : ∀ i d ρ g, ds[i]? = some d → Inv i ρ g → Ok (body d ρ g) (fun x g => match x with
      | (.nx, ρ) => Inv (i + 1) ρ g
      | (.ct, ρ) => Inv (i + 1) ρ g
      | (.bk, ρ) => Q (.nx, ρ) g
      | x => Q x g) E) (fin : ∀ ρ g, Inv ds.length ρ g → Q (.nx, ρ) g) : Ok (loopS (.fix ds) body ((It0.fix ds).len g) 0 ρ g) Q E :=
  loop_ok0 Inv step fin _ 0 ρ g (by simp [It0.len]) h0
/-- a loop over a few things, each written out -/
theorem loop_nil {body : D → Env' → M (Fl × Env')} : Ok (loopS (.fix []) body ((It0.fix []).len g) 0 ρ g) Q E = Q (.nx, ρ) g := by with_unfolding_all rfl
def loopN (body : D → Env' → M (Fl × Env')) (ds : List D) (Q : Fl × Env' → G → Prop) (E : Exn → G → Prop) : Fl × Env' → G → Prop
  | (.nx, ρ), g => Ok (loopS (.fix ds) body ((It0.fix ds).len g) 0 ρ g) Q E
  | (.ct, ρ), g => Ok (loopS (.fix ds) body ((It0.fix ds).len g) 0 ρ g) Q E
  | (.bk, ρ), g => Q (.nx, ρ) g
  | x, g => Q x g
theorem ln_nx {body : D → Env' → M (Fl × Env')} {ds : List D} : loopN body ds Q E (.nx, ρ) g = Ok (loopS (.fix ds) body ((It0.fix ds).len g) 0 ρ g) Q E := by with_unfolding_all rfl
theorem ln_ct {body : D → Env' → M (Fl × Env')} {ds : List D} : loopN body ds Q E (.ct, ρ) g = Ok (loopS (.fix ds) body ((It0.fix ds).len g) 0 ρ g) Q E := by with_unfolding_all rfl
theorem ln_bk {body : D → Env' → M (Fl × Env')} {ds : List D} : loopN body ds Q E (.bk, ρ) g = Q (.nx, ρ) g := by with_unfolding_all rfl
theorem ln_rt {body : D → Env' → M (Fl × Env')} {ds : List D} {d : D} : loopN body ds Q E (.rt d, ρ) g = Q (.rt d, ρ) g := by with_unfolding_all rfl
theorem ln_rs {body : D → Env' → M (Fl × Env')} {ds : List D} {d : Exn} : loopN body ds Q E (.rs d, ρ) g = Q (.rs d, ρ) g := by with_unfolding_all rfl
theorem shift_loop {body : D → Env' → M (Fl × Env')} {d : D} {ds : List D} : ∀ (k i : Nat) (ρ : Env') (g : G), loopS (.fix (d :: ds)) body k (i + 1) ρ g = loopS (.fix ds) body k i ρ g := by
  intro k
  induction k with
  | zero => intro i ρ g; simp only [loopS, It0.at, List.getElem?_cons_succ]
  | succ k ih =>
    intro i ρ g
    simp only [loopS, It0.at, List.getElem?_cons_succ, ih]
    cases ds[i]? with
    | none => with_unfolding_all rfl
    | some d' =>
      simp only
      cases body d' ρ g with
      | ok x g' =>
        obtain ⟨f, ρ'⟩ := x
        cases f <;> simp only [R.bind] <;> first | exact ih _ _ _ | with_unfolding_all rfl
      | _ => with_unfolding_all rfl
theorem loop_cons {body : D → Env' → M (Fl × Env')} {d : D} {ds : List D} : Ok (loopS (.fix (d :: ds)) body ((It0.fix (d :: ds)).len g) 0 ρ g) Q E = Ok (body d ρ g) (loopN body ds Q E) E := by
  show Ok (loopS (.fix (d :: ds)) body (ds.length + 1) 0 ρ g) Q E = _
  simp only [loopS, It0.at, List.getElem?_cons_zero, Ok_bind]
  congr 1
  funext x g
  obtain ⟨f, ρ'⟩ := x
  cases f <;> simp only [loopN, It0.len] <;> first | with_unfolding_all rfl | (rw [shift_loop])
theorem body_for {t : Tg} {xs : Ss} {d : D} : Ok ((do
      let ρ1 ← noEx (asgT cf t d ρ)
      evSs cf xs ρ1 : M (Fl × Env')) g) Q E = Ok (asgT cf t d ρ g) (fun ρ g => Ok (evSs cf xs ρ g) Q E) Never := by
  rw [Ok_bindM, Ok_noEx]
end
end DL

set_option Elab.async false
set_option linter.all false
set_option maxRecDepth 100000
set_option maxHeartbeats 4000000
/-! the deep layer: steps of a run -/
namespace DL
open PySem PySem.Spec L2

section
variable {α : Type} {Q : D → Prop} {i j : Int} {x y : Str} {xs ys : List D} {g : G} {d : D} {ρ : Env'} {n : Nat}
theorem sv0 {o : Option D} : slot (o :: ρ) 0 = o := by with_unfolding_all rfl
theorem svS {o : Option D} : slot (o :: ρ) (n + 1) = slot ρ n := by with_unfolding_all rfl
theorem rdI : rd g (.int i) = .int i := by with_unfolding_all rfl
theorem rdB {b : Bool} : rd g (.bl b) = .bl b := by with_unfolding_all rfl
theorem rdS : rd g (.str x) = .str x := by with_unfolding_all rfl
theorem rdT : rd g (.tup xs) = .tup xs := by with_unfolding_all rfl
theorem rdL : rd g (.lst xs) = .lst xs := by with_unfolding_all rfl
theorem rdD : rd g (.dct xs ys) = .dct xs ys := by with_unfolding_all rfl
theorem rdN : rd g .non = .non := by with_unfolding_all rfl
theorem rdO {C : Str} {ns : List Str} : rd g (.obj C ns xs) = .obj C ns xs := by with_unfolding_all rfl
theorem rdF : rd g (.fn x) = .fn x := by with_unfolding_all rfl
theorem rdRL (h : g[n]? = some (.lst xs)) : rd g (.ref n) = .lst xs := by simp only [rd, h]
theorem rdRD (h : g[n]? = some (.dct xs ys)) : rd g (.ref n) = .dct xs ys := by simp only [rd, h]
theorem p_add : op2 .add (.int i) (.int j) = some (.int (i + j)) := by with_unfolding_all rfl
theorem p_sub : op2 .sub (.int i) (.int j) = some (.int (i - j)) := by with_unfolding_all rfl
theorem p_mul : OO (op2 .mul (.int i) (.int j)) Q = (mulOk i j ∧ Q (.int (i * j))) := by
  unfold op2
  by_cases h : mulOk i j
  · simp only [if_pos h, h, true_and]; with_unfolding_all rfl
  · simp only [if_neg h, h, false_and]; with_unfolding_all rfl
def divOk (j : Int) : Prop := 0 < j ∧ j.natAbs.log2 < 9000
theorem divOk_of {j : Int} (h : 0 < j) (h2 : j < 2 ^ 64) : divOk j := ⟨h, by
  have : j.natAbs < 2 ^ 64 := by omega
  have h3 : j.natAbs ≠ 0 := by omega
  have := (Nat.log2_lt h3).mpr this
  omega⟩
theorem mulOk_of {i j : Int} (h : i.natAbs < 2 ^ 64) : mulOk i j := .inl h
theorem mulOk_of' {i j : Int} (h : j.natAbs < 2 ^ 64) : mulOk i j := .inr (.inl h)
theorem p_fdiv : OO (op2 .fdiv (.int i) (.int j)) Q = (divOk j ∧ Q (.int (i / j))) := by
  unfold op2 divOk
  by_cases h : 0 < j ∧ j.natAbs.log2 < 9000
  · simp only [if_pos h]; simp only [h, true_and, and_self]; with_unfolding_all rfl
  · simp only [if_neg h]; simp only [h, false_and]; with_unfolding_all rfl
theorem p_mod : OO (op2 .mod (.int i) (.int j)) Q = (0 < j ∧ Q (.int (i % j))) := by
  unfold op2
  by_cases h : 0 < j
  · simp only [if_pos h, h, true_and]; with_unfolding_all rfl
  · simp only [if_neg h, h, false_and]; with_unfolding_all rfl
theorem p_pow : OO (op2 .pow (.int i) (.int j)) Q = ((0 ≤ j ∧ j ≤ 1000000 ∧ i.natAbs < 2 ^ 64) ∧ Q (.int (i ^ j.toNat))) := by
  unfold op2
  by_cases h : 0 ≤ j ∧ j ≤ 1000000 ∧ i.natAbs < 2 ^ 64
  · simp only [if_pos h]; simp only [h, true_and, and_self]; with_unfolding_all rfl
  · simp only [if_neg h]; simp only [h, false_and]; with_unfolding_all rfl
theorem p_addS : OO (op2 .add (.str x) (.str y)) Q = (x.length + y.length ≤ sizeLine ∧ Q (.str (x ++ y))) := by
  unfold op2
  by_cases h : x.length + y.length ≤ sizeLine
  · simp only [if_pos h, h, true_and]; with_unfolding_all rfl
  · simp only [if_neg h, h, false_and]; with_unfolding_all rfl
theorem p_addT : OO (op2 .add (.tup xs) (.tup ys)) Q = (xs.length + ys.length ≤ sizeLine ∧ Q (.tup (xs ++ ys))) := by
  unfold op2
  by_cases h : xs.length + ys.length ≤ sizeLine
  · simp only [if_pos h, h, true_and]; with_unfolding_all rfl
  · simp only [if_neg h, h, false_and]; with_unfolding_all rfl
theorem p_addL : OO (op2 .add (.lst xs) (.lst ys)) Q = (xs.length + ys.length ≤ sizeLine ∧ Q (.lst (xs ++ ys))) := by
  unfold op2
  by_cases h : xs.length + ys.length ≤ sizeLine
  · simp only [if_pos h, h, true_and]; with_unfolding_all rfl
  · simp only [if_neg h, h, false_and]; with_unfolding_all rfl
theorem c_lt : cmpD .lt (.int i) (.int j) = some (decide (i < j)) := by with_unfolding_all rfl
theorem c_le : cmpD .le (.int i) (.int j) = some (decide (i ≤ j)) := by with_unfolding_all rfl
theorem c_gt : cmpD .gt (.int i) (.int j) = some (decide (j < i)) := by with_unfolding_all rfl
theorem c_ge : cmpD .ge (.int i) (.int j) = some (decide (j ≤ i)) := by with_unfolding_all rfl
theorem c_eq {x y : D} : cmpD .eq x y = eqD x y := by unfold cmpD; with_unfolding_all rfl
theorem c_ne {x y : D} {Q : Bool → Prop} : OO (cmpD .ne x y) Q = OO (eqD x y) fun b => Q (!b) := by
  unfold cmpD
  rw [OO_map]
theorem c_in {x y : D} : cmpD .isin x y = inD x y := by unfold cmpD; with_unfolding_all rfl
theorem c_nin {x y : D} {Q : Bool → Prop} : OO (cmpD .notin x y) Q = OO (inD x y) fun b => Q (!b) := by
  unfold cmpD
  rw [OO_map]
theorem e_int : eqD (.int i) (.int j) = some (i == j) := by unfold eqD eqO; simp only [dep, Nat.zero_le, Nat.min_self, if_true]
theorem e_str : eqD (.str x) (.str y) = some (x == y) := by unfold eqD eqO; simp only [dep, Nat.zero_le, Nat.min_self, if_true]
theorem e_bl {a b : Bool} : eqD (.bl a) (.bl b) = some (a == b) := by unfold eqD eqO; simp only [dep, Nat.zero_le, Nat.min_self, if_true]
theorem t_bl {b : Bool} : truD (.bl b) = some b := by with_unfolding_all rfl
theorem t_int : truD (.int i) = some (i != 0) := by with_unfolding_all rfl
theorem t_tup : truD (.tup xs) = some (!xs.isEmpty) := by with_unfolding_all rfl
theorem t_lst : truD (.lst xs) = some (!xs.isEmpty) := by with_unfolding_all rfl
theorem t_non : truD .non = some false := by with_unfolding_all rfl
theorem i_tup {kd : Str → Str → Option D} : ixD kd (.tup xs) (.int i) = atI xs i := by with_unfolding_all rfl
theorem i_lst {kd : Str → Str → Option D} : ixD kd (.lst xs) (.int i) = atI xs i := by with_unfolding_all rfl
theorem i_dS {kd : Str → Str → Option D} : ixD kd (.dct xs ys) (.str x) = dlook xs ys (.inr x) := by with_unfolding_all rfl
theorem i_dI {kd : Str → Str → Option D} : ixD kd (.dct xs ys) (.int i) = dlook xs ys (.inl i) := by with_unfolding_all rfl
theorem i_fn {kd : Str → Str → Option D} : ixD kd (.fn x) (.str y) = kd x y := by with_unfolding_all rfl
theorem s_tupl {lo hi : Option Int} : slD (.tup xs) lo hi = some (.tup (cutL xs lo hi)) := by with_unfolding_all rfl
theorem s_lstl {lo hi : Option Int} : slD (.lst xs) lo hi = some (.lst (cutL xs lo hi)) := by with_unfolding_all rfl
theorem n_tup : itOf g (.tup xs) = some (.fix xs) := by with_unfolding_all rfl
theorem n_lst : itOf g (.lst xs) = some (.fix xs) := by with_unfolding_all rfl
theorem n_dct : itOf g (.dct xs ys) = some (.fix xs) := by with_unfolding_all rfl
theorem n_str : itOf g (.str x) = some (.fix (signsD x)) := by with_unfolding_all rfl
theorem m_tup : itemsD (.tup xs) = some xs := by with_unfolding_all rfl
theorem m_lst : itemsD (.lst xs) = some xs := by with_unfolding_all rfl
end
/-! what stands at a place -/
def rdAt (n : Nat) : Option O → D
  | some (.lst ds) => .lst ds
  | some (.dct ks vs) => .dct ks vs
  | some (.ins C ns vs) => .obj C ns vs
  | _ => .ref n
theorem rdR {g : G} {n : Nat} : rd g (.ref n) = rdAt n g[n]? := by
  simp only [rd]
  cases g[n]? with
  | none => with_unfolding_all rfl
  | some o => cases o <;> with_unfolding_all rfl
def lenO (Q : D → Prop) : D → Prop
  | .tup xs => Q (.int xs.length)
  | .lst xs => Q (.int xs.length)
  | .str x => x.length ≤ sizeLine ∧ Q (.int x.length)
  | .dct ks _ => Q (.int ks.length)
  | _ => False
def seqO (Q : List D → Prop) : D → Prop
  | .tup xs => Q xs
  | .lst xs => Q xs
  | _ => False
def lstO (Q : List D → Prop) : D → Prop
  | .lst xs => Q xs
  | _ => False
def lsdO (Q : List D → Prop) : D → Prop
  | .tup xs => Q xs
  | .lst xs => Q xs
  | .dct ks _ => Q ks
  | _ => False
def dctO (Q : List D → List D → Prop) : D → Prop
  | .dct ks vs => Q ks vs
  | _ => False
def atO (Q : List D → Prop) : Option O → Prop
  | some (.lst xs) => Q xs
  | _ => False
def setO (i : D) (d : D) (Q : O → Prop) : Option O → Prop
  | some (.lst xs) => (match i with
    | .int k => OO (ixN xs.length k) fun j => Q (.lst (xs.set j d))
    | _ => False)
  | some (.dct ks vs) => OO (keyOf i) fun k => ks.length < sizeLine ∧ Q (.dct (dput ks vs k d).1 (dput ks vs k d).2)
  | _ => False
def frzO (Q : D → Prop) : Option O → Prop
  | some (.lst xs) => Q (.lst xs)
  | some (.dct ks vs) => Q (.dct ks vs)
  | some (.ins C ns vs) => Q (.obj C ns vs)
  | _ => False
section
variable {Q : D → G → Prop} {QU : Unit → G → Prop} {E : Exn → G → Prop} {i j : Int} {x y : D} {xs ys ds : List D} {g : G} {d k : D} {n : Nat} {fz : Bool}
theorem b_len : Ok (biM .len [x] g) Q E = lenO (fun d => Q d g) (rd g x) := by
  show Ok (match rd g x with
    | .tup xs => .ok (.int xs.length) g
    | .lst xs => .ok (.int xs.length) g
    | .str x => if x.length ≤ sizeLine then .ok (.int x.length) g else .bad
    | .dct ks _ => .ok (.int ks.length) g
    | _ => .bad) Q E = _
  cases rd g x <;> first | with_unfolding_all rfl | skip
  rename_i x
  by_cases h : x.length ≤ sizeLine
  · simp only [if_pos h, lenO, h, true_and]; with_unfolding_all rfl
  · simp only [if_neg h, lenO, h, false_and]; with_unfolding_all rfl
theorem b_tup : Ok (biM .tuple [x] g) Q E = seqO (fun xs => Q (.tup xs) g) (rd g x) := by
  show Ok (match rd g x with
    | .tup xs => .ok (.tup xs) g
    | .lst xs => .ok (.tup xs) g
    | _ => .bad) Q E = _
  cases rd g x <;> with_unfolding_all rfl
theorem b_lstT : Ok (biM (.list true) [x] g) Q E = lsdO (fun xs => Q (.lst xs) g) (rd g x) := by
  show Ok (match rd g x with
    | .tup xs => mkL true xs g
    | .lst xs => mkL true xs g
    | .dct ks _ => mkL true ks g
    | _ => .bad) Q E = _
  cases rd g x <;> with_unfolding_all rfl
theorem b_lstF : Ok (biM (.list false) [x] g) Q E = lsdO (fun xs => Q (.ref g.length) (g ++ [.lst xs])) (rd g x) := by
  show Ok (match rd g x with
    | .tup xs => mkL false xs g
    | .lst xs => mkL false xs g
    | .dct ks _ => mkL false ks g
    | _ => .bad) Q E = _
  cases rd g x <;> with_unfolding_all rfl
theorem b_min : Ok (biM .min2 [.int i, .int j] g) Q E = Q (.int (if j < i then j else i)) g := by with_unfolding_all rfl
theorem b_max : Ok (biM .max2 [.int i, .int j] g) Q E = Q (.int (if j > i then j else i)) g := by with_unfolding_all rfl
theorem b_abs : Ok (biM .abs [.int i] g) Q E = Q (.int (if i < 0 then -i else i)) g := by with_unfolding_all rfl
theorem b_all : Ok (biM .all [x] g) Q E = lstO (fun xs => OO (boolsOf xs) fun bs => Q (.bl (bs.all id)) g) (rd g x) := by
  show Ok (match rd g x with
    | .lst xs => match boolsOf xs with
      | some bs => .ok (.bl (bs.all id)) g
      | none => .bad
    | _ => .bad) Q E = _
  cases rd g x <;> first | with_unfolding_all rfl | skip
  rename_i xs
  simp only [lstO]
  cases boolsOf xs <;> with_unfolding_all rfl
theorem b_any : Ok (biM .any [x] g) Q E = lstO (fun xs => OO (boolsOf xs) fun bs => Q (.bl (bs.any id)) g) (rd g x) := by
  show Ok (match rd g x with
    | .lst xs => match boolsOf xs with
      | some bs => .ok (.bl (bs.any id)) g
      | none => .bad
    | _ => .bad) Q E = _
  cases rd g x <;> first | with_unfolding_all rfl | skip
  rename_i xs
  simp only [lstO]
  cases boolsOf xs <;> with_unfolding_all rfl
theorem b_sum : Ok (biM .sum [x] g) Q E = lstO (fun xs => OO (intsOf xs) fun bs => Q (.int bs.sum) g) (rd g x) := by
  show Ok (match rd g x with
    | .lst xs => match intsOf xs with
      | some bs => .ok (.int bs.sum) g
      | none => .bad
    | _ => .bad) Q E = _
  cases rd g x <;> first | with_unfolding_all rfl | skip
  rename_i xs
  simp only [lstO]
  cases intsOf xs <;> with_unfolding_all rfl
theorem b_sort : Ok (biM (.sortI true) [x] g) Q E = lstO (fun xs => OO (intsOf xs) fun bs => bs.length < 64 ∧ Q (.lst ((sortI bs).map .int)) g) (rd g x) := by
  show Ok (match rd g x with
    | .lst xs => match intsOf xs with
      | some bs => sortM true bs g
      | none => .bad
    | _ => .bad) Q E = _
  cases rd g x <;> first | with_unfolding_all rfl | skip
  rename_i xs
  simp only [lstO]
  cases intsOf xs with
  | none => with_unfolding_all rfl
  | some bs =>
    unfold sortM
    by_cases h : bs.length < 64
    · simp only [if_pos h, OO, h, true_and]; with_unfolding_all rfl
    · simp only [if_neg h, OO, h, false_and]; with_unfolding_all rfl
theorem b_str : Ok (biM .strI [.int i] g) Q E = (i.natAbs.log2 < 1920 ∧ Q (.str (toString i)) g) := by
  show Ok ((if i.natAbs.log2 < 1920 then pure (.str (toString i)) else M.bad : M D) g) Q E = _
  by_cases h : i.natAbs.log2 < 1920
  · simp only [if_pos h, h, true_and]; with_unfolding_all rfl
  · simp only [if_neg h, h, false_and]; with_unfolding_all rfl
theorem mo_app : mtOk .append (.lst xs) = true := by with_unfolding_all rfl
theorem mo_pop : mtOk .pop (.lst xs) = true := by with_unfolding_all rfl
theorem mo_get : mtOk .get (.dct xs ys) = true := by with_unfolding_all rfl
theorem mo_join {x : Str} : mtOk .join (.str x) = true := by with_unfolding_all rfl
theorem a_app : Ok (mtM .append (.ref n) [d] g) Q E = atO (fun xs => xs.length < sizeLine ∧ Q .non (g.set n (.lst (xs ++ [d])))) g[n]? := by
  simp only [mtM, appendM]
  cases g[n]? with
  | none => with_unfolding_all rfl
  | some o =>
    cases o <;> first | with_unfolding_all rfl | skip
    rename_i xs
    by_cases hl : xs.length < sizeLine
    · simp only [if_pos hl, atO, hl, true_and]; with_unfolding_all rfl
    · simp only [if_neg hl, atO, hl, false_and]; with_unfolding_all rfl
theorem a_pop : Ok (mtM .pop (.ref n) [] g) Q E = atO (fun xs => OO xs[xs.length - 1]? fun y => Q y (g.set n (.lst xs.dropLast))) g[n]? := by
  simp only [mtM, popM]
  cases g[n]? with
  | none => with_unfolding_all rfl
  | some o =>
    cases o <;> first | with_unfolding_all rfl | skip
    rename_i xs
    simp only [atO]
    cases xs[xs.length - 1]? <;> with_unfolding_all rfl
theorem a_get : Ok (mtM .get x [k] g) Q E = dctO (fun ks vs => OO (keyOf k) fun k => Q ((dlook ks vs k).getD .non) g) (rd g x) := by
  simp only [mtM, getM]
  cases rd g x <;> first | with_unfolding_all rfl | skip
  cases keyOf k <;> with_unfolding_all rfl
theorem a_get2 : Ok (mtM .get x [k, d] g) Q E = dctO (fun ks vs => OO (keyOf k) fun k => Q ((dlook ks vs k).getD d) g) (rd g x) := by
  simp only [mtM, getM]
  cases rd g x <;> first | with_unfolding_all rfl | skip
  cases keyOf k <;> with_unfolding_all rfl
theorem a_join {x : Str} : Ok (mtM .join (.str x) [y] g) Q E = lstO (fun xs => OO (strsOf xs) fun ys => (ys.map (·.length)).sum + ys.length * x.length ≤ 16777216 ∧ Q (.str (Txt.join x ys)) g) (rd g y) := by
  simp only [mtM, joinM]
  cases rd g y <;> first | with_unfolding_all rfl | skip
  rename_i xs
  simp only [lstO]
  cases strsOf xs with
  | none => with_unfolding_all rfl
  | some ys =>
    by_cases h : (ys.map (·.length)).sum + ys.length * x.length ≤ 16777216
    · simp only [if_pos h, OO, h, true_and]; with_unfolding_all rfl
    · simp only [if_neg h, OO, h, false_and]; with_unfolding_all rfl
theorem z_set : Ok (setItemM (.ref n) y d g) QU E = setO y d (fun o => QU () (g.set n o)) g[n]? := by
  simp only [setItemM]
  cases g[n]? with
  | none => with_unfolding_all rfl
  | some o =>
    cases o with
    | lst xs =>
      cases y <;> first | with_unfolding_all rfl | skip
      simp only [setO]
      cases ixN xs.length _ <;> with_unfolding_all rfl
    | dct ks vs =>
      simp only [setO]
      cases keyOf y with
      | none => with_unfolding_all rfl
      | some k =>
        by_cases h : ks.length < sizeLine
        · simp only [if_pos h, OO, h, true_and]; with_unfolding_all rfl
        · simp only [if_neg h, OO, h, false_and]; with_unfolding_all rfl
    | _ => with_unfolding_all rfl
theorem f_frz : Ok (frzM (.ref n) g) Q E = frzO (fun d => Q d (g.set n .gone)) g[n]? := by
  simp only [frzM]
  cases g[n]? with
  | none => with_unfolding_all rfl
  | some o => cases o <;> with_unfolding_all rfl
theorem d_disp {ps : List (D × D)} : Ok (setDctM g.length false ps (g ++ [.dct [] []])) Q E = OO (dmerge [] [] ps) fun r => Q (.ref g.length) (g ++ [.dct r.1 r.2]) := by
  have h1 : (g ++ [O.dct [] []])[g.length]? = some (.dct [] []) := by simp
  have h2 : ∀ o, (g ++ [O.dct [] []]).set g.length o = g ++ [o] := by simp
  simp only [setDctM, h1, h2]
  cases dmerge [] [] ps <;> with_unfolding_all rfl
theorem d_dispT {ps : List (D × D)} : Ok (setDctM g.length true ps (g ++ [.dct [] []])) Q E = OO (dmerge [] [] ps) fun r => Q (.dct r.1 r.2) (g ++ [.gone]) := by
  have h1 : (g ++ [O.dct [] []])[g.length]? = some (.dct [] []) := by simp
  have h2 : ∀ o, (g ++ [O.dct [] []]).set g.length o = g ++ [o] := by simp
  simp only [setDctM, h1, h2]
  cases dmerge [] [] ps <;> with_unfolding_all rfl
theorem q_last {o : O} : (g ++ [o])[g.length]? = some o := by simp
theorem q_set {o o' : O} : (g ++ [o]).set g.length o' = g ++ [o'] := by simp
theorem k_str {x : Str} : keyOf (.str x) = some (.inr x) := by with_unfolding_all rfl
theorem k_int : keyOf (.int i) = some (.inl i) := by with_unfolding_all rfl
theorem l_nil {k : Key} : dlook [] ys k = none := by with_unfolding_all rfl
theorem l_str {x y : Str} {v : D} : dlook (.str x :: xs) (v :: ys) (.inr y) = if x = y then some v else dlook xs ys (.inr y) := by
  simp only [dlook, keyOf, Option.some.injEq, Sum.inr.injEq]
theorem l_int {v : D} : dlook (.int i :: xs) (v :: ys) (.inl j) = if i = j then some v else dlook xs ys (.inl j) := by
  simp only [dlook, keyOf, Option.some.injEq, Sum.inl.injEq]
theorem w_nil {k : Key} {v : D} : dset [] ys k v = [] := by with_unfolding_all rfl
theorem w_str {x y : Str} {u v : D} : dset (.str x :: xs) (u :: ys) (.inr y) v = (if x = y then v else u) :: dset xs ys (.inr y) v := by
  simp only [dset, keyOf, Option.some.injEq, Sum.inr.injEq]
theorem w_int {u v : D} : dset (.int i :: xs) (u :: ys) (.inl j) v = (if i = j then v else u) :: dset xs ys (.inl j) v := by
  simp only [dset, keyOf, Option.some.injEq, Sum.inl.injEq]
end
/-- the size line kept shut: a literal there makes the unifier count -/
def Fits (n : Nat) : Prop := n ≤ sizeLine
theorem fits_le {n : Nat} : (n ≤ sizeLine) = Fits n := by with_unfolding_all rfl
theorem fits_lt {n : Nat} : (n < sizeLine) = Fits (n + 1) := by with_unfolding_all rfl
theorem fits_s {n : Nat} (h : n ≤ 4096) : Fits n = True := by
  unfold Fits
  rw [sizeLine_eq]
  simp only [eq_iff_iff, iff_true]
  omega
theorem fits {n : Nat} (h : n ≤ 4096) : Fits n := by rw [fits_s h]; trivial
end DL

set_option Elab.async false
set_option linter.all false
set_option maxRecDepth 100000
set_option maxHeartbeats 4000000
/-! the deep layer: comprehensions, likeness, heaps kept -/
namespace DL
open PySem PySem.Spec L2

/-! comprehensions -/
section
variable {cf : Cf} {Q : Unit → G → Prop} {E : Exn → G → Prop}
theorem body_lc {t : Tg} {elt : DL.E} {ifs : Es} {ρ : Env'} {d : D} {g : G} {Q : Option D → G → Prop} : Ok ((do
      let ρ1 ← asgT cf t d ρ
      let k ← evIfs cf ifs ρ1
      if k then do
        let y ← evE cf elt ρ1
        pure (some y)
      else pure none : M (Option D)) g) Q E = Ok (asgT cf t d ρ g) (fun ρ1 g => Ok (evIfs cf ifs ρ1 g) (fun k g => if k = true then Ok (evE cf elt ρ1 g) (fun y g => Q (some y) g) E else Q none g) E) E := by
  simp only [Ok_bindM]
  congr 1
  funext ρ1 g
  congr 1
  funext k g
  cases k
  · with_unfolding_all rfl
  · simp only [if_true, Ok_bindM, Ok_pure]
theorem lc_ok0 {ds : List D} {n : Nat} {body : D → M (Option D)} (Inv : Nat → List D → G → Prop)
    (step : ∀ i d xs g, ds[i]? = some d → g[n]? = some (.lst xs) → Inv i xs g → Ok (body d g) (fun o g' => g'[n]? = some (.lst xs) ∧ match o with
      | none => Inv (i + 1) xs g'
      | some y => Fits (xs.length + 1) ∧ Inv (i + 1) (xs ++ [y]) (g'.set n (.lst (xs ++ [y])))) Never)
    (fin : ∀ xs g, g[n]? = some (.lst xs) → Inv ds.length xs g → Q () g) : ∀ (k i : Nat) (xs : List D) (g : G), i + k = ds.length → g[n]? = some (.lst xs) → Inv i xs g → Ok (loopC (.fix ds) n body k i g) Q E := by
  intro k
  induction k with
  | zero =>
    intro i xs g hk hg hi
    have hi' : i = ds.length := by omega
    subst hi'
    simp only [loopC, It0.at, List.getElem?_eq_none (Nat.le_refl _)]
    show Ok (.ok () g) Q E
    rw [Ok_ok]
    exact fin xs g hg hi
  | succ k ih =>
    intro i xs g hk hg hi
    have hlt : i < ds.length := by omega
    have e : ds[i]? = some ds[i] := List.getElem?_eq_getElem hlt
    simp only [loopC, It0.at, e, Ok_bind, Ok_noEx]
    refine (step i _ xs g e hg hi).mono (fun o g' h => ?_) fun _ _ h => h.elim
    obtain ⟨hg', h⟩ := h
    cases o with
    | none => exact ih (i + 1) xs g' (by omega) hg' h
    | some y =>
      obtain ⟨hf, h⟩ := h
      have hl : xs.length < sizeLine := hf
      have ea : addTo n y g' = .ok () (g'.set n (.lst (xs ++ [y]))) := by
        simp only [addTo, hg']
        rw [if_pos hl]
      show Ok ((addTo n y g').bind _) Q E
      rw [Ok_bind, ea, Ok_ok]
      refine ih (i + 1) (xs ++ [y]) _ (by omega) ?_ h
      rw [List.getElem?_set_self]
      exact (List.getElem?_eq_some_iff.mp hg').1
/-- a comprehension: an invariant by the turn, of what has come and the heap -/
theorem lc_fix {ds : List D} {body : D → M (Option D)} {g : G} (Inv : Nat → List D → G → Prop) (h0 : Inv 0 [] (g ++ [.lst []]))
    (step : ∀ i d xs g', ds[i]? = some d → g'[g.length]? = some (.lst xs) → Inv i xs g' → Ok (body d g') (fun o g' => g'[g.length]? = some (.lst xs) ∧ match o with
      | none => Inv (i + 1) xs g'
      | some y => Fits (xs.length + 1) ∧ Inv (i + 1) (xs ++ [y]) (g'.set g.length (.lst (xs ++ [y])))) Never)
    (fin : ∀ xs g', g'[g.length]? = some (.lst xs) → Inv ds.length xs g' → Q () g') : Ok (loopC (.fix ds) g.length body ((It0.fix ds).len (g ++ [.lst []])) 0 (g ++ [.lst []])) Q E :=
  lc_ok0 Inv step fin _ 0 [] _ (by simp [It0.len]) (by simp) h0
theorem endT {Q : D → G → Prop} {n : Nat} {xs : List D} {g : G} (h : g[n]? = some (.lst xs)) : Ok (endL true n g) Q E = Q (.lst xs) (g.set n .gone) := by
  unfold endL
  rw [h]
  with_unfolding_all rfl
theorem endF {Q : D → G → Prop} {n : Nat} {g : G} : Ok (endL false n g) Q E = Q (.ref n) g := by with_unfolding_all rfl
/-- one that changes nothing -/
theorem lc_pure {ds : List D} {body : D → M (Option D)} {g : G} {Q : D → G → Prop} (f : D → Option D) (hf : Fits ds.length)
    (step : ∀ d xs (Q : Option D → G → Prop), d ∈ ds → Q (f d) (g ++ [.lst xs]) → Ok (body d (g ++ [.lst xs])) Q Never)
    (fin : Q (.lst (ds.filterMap f)) (g ++ [.gone])) : Ok (loopC (.fix ds) g.length body ((It0.fix ds).len (g ++ [.lst []])) 0 (g ++ [.lst []])) (fun _ g' => Ok (endL true g.length g') Q E) E := by
  refine lc_fix (fun i xs g' => g' = g ++ [.lst xs] ∧ xs = (ds.take i).filterMap f ∧ xs.length ≤ i) ⟨rfl, by simp, by simp⟩ ?_ ?_
  · rintro i d xs g' hd hg ⟨rfl, hx, hl⟩
    have hi : i < ds.length := (List.getElem?_eq_some_iff.mp hd).1
    have ht : ds.take (i + 1) = ds.take i ++ [d] := by
      rw [List.take_add_one, hd]; rfl
    refine step d xs _ (List.mem_of_getElem? hd) ⟨hg, ?_⟩
    cases e : f d with
    | none =>
      refine ⟨rfl, ?_, by omega⟩
      rw [ht, List.filterMap_append, ← hx]
      simp [List.filterMap_cons, e]
    | some y =>
      refine ⟨?_, by simp, ?_, by simp; omega⟩
      · have hs : ds.length ≤ sizeLine := hf
        show xs.length + 1 ≤ sizeLine
        omega
      · rw [ht, List.filterMap_append, ← hx]
        simp [List.filterMap_cons, e]
  · rintro xs g' hg ⟨rfl, hx, _⟩
    rw [endT hg]
    have : (g ++ [O.lst xs]).set g.length .gone = g ++ [.gone] := by simp
    rw [this, hx, List.take_length]
    exact fin
end

/-! likeness -/
section
variable {i j : Int} {x y : Str} {xs ys : List D} {a b : D} {p q : Bool}
theorem eo_int : eqO (.int i) (.int j) = some (i == j) := by unfold eqO; rfl
theorem eo_str : eqO (.str x) (.str y) = some (x == y) := by unfold eqO; rfl
theorem eo_bl : eqO (.bl p) (.bl q) = some (p == q) := by unfold eqO; rfl
theorem eo_tup : eqO (.tup xs) (.tup ys) = eqOs xs ys := by unfold eqO; rfl
theorem eo_is : eqO (.int i) (.str y) = some false := by unfold eqO; rfl
theorem eo_si : eqO (.str y) (.int i) = some false := by unfold eqO; rfl
theorem eo_ts : eqO (.tup xs) (.str y) = some false := by unfold eqO; rfl
theorem eo_st : eqO (.str y) (.tup xs) = some false := by unfold eqO; rfl
theorem eo_ti : eqO (.tup xs) (.int i) = some false := by unfold eqO; rfl
theorem eo_it : eqO (.int i) (.tup xs) = some false := by unfold eqO; rfl
theorem eo_nn : eqOs [] [] = some true := by unfold eqOs; rfl
theorem eo_nc : eqOs [] (b :: ys) = some false := by unfold eqOs; rfl
theorem eo_cn : eqOs (a :: xs) [] = some false := by unfold eqOs; rfl
def bothB : Option Bool → Option Bool → Option Bool
  | some a, some b => some (a && b)
  | _, _ => none
theorem bothB_some : bothB (some p) (some q) = some (p && q) := rfl
theorem eo_cc : eqOs (a :: xs) (b :: ys) = bothB (eqO a b) (eqOs xs ys) := by rw [eqOs]; cases eqO a b <;> cases eqOs xs ys <;> rfl
theorem e_tup (h : min (dep (.tup xs)) (dep (.tup ys)) ≤ 60) : eqD (.tup xs) (.tup ys) = eqOs xs ys := by
  unfold eqD; rw [if_pos h, eo_tup]
theorem e_tupn : eqD (.tup xs) (.tup []) = some xs.isEmpty := by
  rw [e_tup (by simp only [dep, deps]; omega)]
  cases xs with
  | nil => rfl
  | cons => rfl
theorem e_lstn : eqD (.lst xs) (.lst []) = some xs.isEmpty := by
  unfold eqD
  rw [if_pos (by simp only [dep, deps]; omega)]
  cases xs with
  | nil => unfold eqO; rfl
  | cons => unfold eqO; rfl
theorem e_is : eqD (.int i) (.str y) = some false := by unfold eqD; rw [if_pos (by simp [dep]), eo_is]
theorem e_si : eqD (.str y) (.int i) = some false := by unfold eqD; rw [if_pos (by simp [dep]), eo_si]
end

/-! heaps: what stands stays, but for some -/
def Keep (ms : List Nat) (g g' : G) : Prop := g.length ≤ g'.length ∧ ∀ n, n < g.length → n ∉ ms → g'[n]? = g[n]?
theorem Keep.rfl' {ms : List Nat} {g : G} : Keep ms g g := ⟨Nat.le_refl _, fun _ _ _ => rfl⟩
theorem Keep.trans {ms : List Nat} {a b c : G} (h : Keep ms a b) (k : Keep ms b c) : Keep ms a c :=
  ⟨Nat.le_trans h.1 k.1, fun n hn hm => (k.2 n (by have := h.1; omega) hm).trans (h.2 n hn hm)⟩
theorem Keep.mono {ms ms' : List Nat} {a b : G} (h : Keep ms a b) (k : ∀ n, n ∈ ms → n ∈ ms') : Keep ms' a b :=
  ⟨h.1, fun n hn hm => h.2 n hn fun z => hm (k n z)⟩
theorem Keep.of_nil {ms : List Nat} {a b : G} (h : Keep [] a b) : Keep ms a b := h.mono fun _ z => by cases z
theorem Keep.app {ms : List Nat} {a : G} {o : List O} : Keep ms a (a ++ o) :=
  ⟨by simp, fun n hn _ => by rw [List.getElem?_append_left hn]⟩
theorem Keep.set {m : Nat} {a : G} {o : O} : Keep [m] a (a.set m o) :=
  ⟨by simp, fun n hn hm => by
    rw [List.getElem?_set_ne]
    intro z
    exact hm (by simp [z])⟩
theorem Keep.setIn {ms : List Nat} {m : Nat} {a b : G} {o : O} (h : Keep ms a b) (hm : m ∈ ms ∨ a.length ≤ m) : Keep ms a (b.set m o) :=
  ⟨by simp [h.1], fun n hn hx => by
    rw [List.getElem?_set_ne, h.2 n hn hx]
    rintro rfl
    rcases hm with z | z
    · exact hx z
    · omega⟩
theorem Keep.appIn {ms : List Nat} {a b : G} {o : List O} (h : Keep ms a b) : Keep ms a (b ++ o) := h.trans .app
theorem Keep.at {ms : List Nat} {a b : G} {n : Nat} {o : O} (h : Keep ms a b) (e : a[n]? = some o) (hm : n ∉ ms) : b[n]? = some o := by
  rw [h.2 n (List.getElem?_eq_some_iff.mp e).1 hm, e]

/-! drawn numbers -/
def Dr (m C : Nat) (g : G) : Prop := ∃ a b c : Int, g[m]? = some (.lst [.int a, .int b, .int c]) ∧ 0 ≤ a ∧ 0 ≤ b ∧ b < 2 ^ 31 ∧ 0 ≤ c ∧ c ≤ C
theorem Dr.lt {m C : Nat} {g : G} (h : Dr m C g) : m < g.length := by
  obtain ⟨_, _, _, e, _⟩ := h
  exact (List.getElem?_eq_some_iff.mp e).1
theorem Dr.keep {m C : Nat} {ms : List Nat} {g g' : G} (h : Dr m C g) (k : Keep ms g g') (hm : m ∉ ms) : Dr m C g' := by
  obtain ⟨a, b, c, e, r⟩ := h
  exact ⟨a, b, c, k.at e hm, r⟩
theorem Dr.app {m C : Nat} {g : G} {o : List O} (h : Dr m C g) : Dr m C (g ++ o) := h.keep (ms := []) .app (by simp)
theorem Dr.set {m n C : Nat} {g : G} {o : O} (h : Dr m C g) (hn : n ≠ m) : Dr m C (g.set n o) := h.keep (ms := [n]) .set (by simp; omega)
theorem Dr.mono {m C C' : Nat} {g : G} (h : Dr m C g) (k : C ≤ C') : Dr m C' g := by
  obtain ⟨a, b, c, e, h1, h2, h3, h4, h5⟩ := h
  exact ⟨a, b, c, e, h1, h2, h3, h4, by omega⟩
theorem set_self {m : Nat} {g : G} {o o' : O} (h : g[m]? = some o) : (g.set m o')[m]? = some o' := by
  rw [List.getElem?_set_self]
  exact (List.getElem?_eq_some_iff.mp h).1
theorem bound_draw {b c : Int} (h2 : 0 ≤ b) (h3 : b < 2 ^ 31) (h4 : 0 ≤ c) (h5 : c ≤ 1048576) : (b * (2 * c + 1) + 7919 * c * c + 11).natAbs < 2 ^ 64 := by
  have e1 : b * (2 * c + 1) ≤ 2147483648 * 2097153 := Int.mul_le_mul (by omega) (by omega) (by omega) (by omega)
  have e0 : 0 ≤ b * (2 * c + 1) := Int.mul_nonneg h2 (by omega)
  have e2 : 7919 * c * c ≤ (7919 * 1048576) * 1048576 := Int.mul_le_mul (by omega) h5 h4 (by omega)
  have e3 : 0 ≤ 7919 * c * c := Int.mul_nonneg (by omega) h4
  omega
theorem bound_seed {c k : Int} (h : 0 ≤ k) (h2 : k ≤ 1000) : (c % 2147483647 * 48271 + 104729 * k + 7).natAbs < 2 ^ 64 := by omega
theorem mulOk_l {i j : Int} (h : i.natAbs < 2 ^ 64) : mulOk i j = True := by
  simp only [eq_iff_iff, iff_true]
  exact .inl h
theorem mulOk_r {i j : Int} (h : j.natAbs < 2 ^ 64) : mulOk i j = True := by
  simp only [eq_iff_iff, iff_true]
  exact .inr (.inl h)
theorem divOk_t {j : Int} (h : 0 < j) (h2 : j < 2 ^ 64) : divOk j = True := by
  simp only [eq_iff_iff, iff_true]
  exact divOk_of h h2
theorem at_some {xs : List D} {i : Int} (h : 0 ≤ i) (h2 : i < xs.length) : ∃ d, atI xs i = some d ∧ d ∈ xs := by
  obtain ⟨n, rfl⟩ := Int.eq_ofNat_of_zero_le h
  have hn : n < xs.length := by omega
  exact ⟨xs[n], atI_nat (List.getElem?_eq_getElem hn), List.getElem_mem hn⟩
section
variable {x y z d : D} {r : List D}
theorem at0 : atI (x :: r) 0 = some x := atI_nat (j := 0) rfl
theorem at1 : atI (x :: y :: r) 1 = some y := atI_nat (j := 1) rfl
theorem at2 : atI (x :: y :: z :: r) 2 = some z := atI_nat (j := 2) rfl
theorem is0 {k : Nat} : ixN (k + 1) 0 = some 0 := by unfold ixN; simp
theorem is2 : ixN 3 2 = some 2 := rfl
theorem is1 : ixN 3 1 = some 1 := rfl
theorem divP11 : divOk 11 = True := divOk_t (by decide) (by decide)
theorem pos_mod : ((0 : Int) < 2147483647) = True := by decide
end
theorem cut_take {xs : List D} {i : Int} (h : 0 ≤ i) : cutL xs none (some i) = xs.take i.toNat := by
  have e : HT.sIx xs.length xs.length (some i) = min i.toNat xs.length := by
    simp only [HT.sIx, if_neg (show ¬ i < 0 by omega)]
  have e0 : HT.sIx xs.length 0 none = 0 := rfl
  unfold cutL
  rw [e, e0, List.drop_zero, Nat.sub_zero]
  by_cases hl : i.toNat ≤ xs.length
  · rw [Nat.min_eq_left hl]
  · rw [Nat.min_eq_right (by omega), List.take_length, List.take_of_length_le (by omega)]
theorem cut_drop {xs : List D} {i : Int} (h : 0 ≤ i) : cutL xs (some i) none = xs.drop i.toNat := by
  have e : HT.sIx xs.length 0 (some i) = min i.toNat xs.length := by
    simp only [HT.sIx, if_neg (show ¬ i < 0 by omega)]
  have e0 : HT.sIx xs.length xs.length none = xs.length := rfl
  unfold cutL
  rw [e, e0]
  by_cases hl : i.toNat ≤ xs.length
  · rw [Nat.min_eq_left hl, List.take_of_length_le (by simp)]
  · rw [Nat.min_eq_right (by omega), List.drop_eq_nil_of_le (Nat.le_refl _), List.drop_eq_nil_of_le (by omega), List.take_nil]
theorem rng0 {n : Nat} : rngD 0 (n : Int) = (List.range n).map fun i => .int (i : Nat) := by
  unfold rngD
  simp
end DL

set_option Elab.async false
set_option linter.all false
set_option maxRecDepth 100000
set_option maxHeartbeats 4000000
/-! the deep layer: texts, lists of truths, membership -/
namespace DL
open PySem PySem.Spec L2

theorem len_app (x y : Str) : (x ++ y).length = x.length + y.length := by
  show (x.append y).cps.size = _
  simp [Str.append, Str.length]
theorem cut_len (x : Str) (lo hi : Option Int) : (cutStr x lo hi).length ≤ x.length := by
  unfold cutStr Str.length
  simp
  omega
theorem join_len0 (ys : List Str) : (Txt.join "" ys).length = (ys.map (·.length)).sum := by
  unfold Txt.join Builtin.Str.glued
  have key : ∀ (ys : List Str) (a : Array Nat), (List.foldl (fun acc p => acc ++ (Str.ofString "").cps ++ p.cps) a ys).size = a.size + (ys.map (·.length)).sum := by
    intro ys
    induction ys with
    | nil => intro a; simp
    | cons y ys ih =>
      intro a
      rw [List.foldl_cons, ih]
      have e : ((Str.ofString "").cps).size = 0 := rfl
      simp only [Array.size_append, e, List.map_cons, List.sum_cons]
      unfold Str.length
      omega
  cases ys with
  | nil => rfl
  | cons y ys =>
    simp only [List.headD_cons, List.drop_one, List.tail_cons]
    unfold Str.length at key ⊢
    rw [key]
    rfl
theorem join_len_le (x : Str) (ys : List Str) : (Txt.join x ys).length ≤ (ys.map (·.length)).sum + ys.length * x.length := by
  unfold Txt.join Builtin.Str.glued
  have key : ∀ (ys : List Str) (a : Array Nat), (List.foldl (fun acc p => acc ++ x.cps ++ p.cps) a ys).size = a.size + (ys.map (·.length)).sum + ys.length * x.length := by
    intro ys
    induction ys with
    | nil => intro a; simp
    | cons y ys ih =>
      intro a
      rw [List.foldl_cons, ih]
      simp only [Array.size_append, List.map_cons, List.sum_cons, List.length_cons, Nat.succ_mul, Nat.add_mul]
      unfold Str.length
      omega
  cases ys with
  | nil => simp [Str.length, Str.empty]
  | cons y ys =>
    simp only [List.headD_cons, List.drop_one, List.tail_cons]
    unfold Str.length at key ⊢
    rw [key]
    simp only [List.map_cons, List.sum_cons, List.length_cons, Nat.add_mul]
    omega
section
variable {Q : D → Prop} {QB : Bool → Prop} {x y : Str} {xs ys : List D} {a b d : D} {i : Int} {kd : Str → Str → Option D} {lo hi : Option Int} {p q : Bool}
theorem i_str : OO (ixD kd (.str x) (.int i)) Q = (Fits x.length ∧ OO (atI x.cps.toList i) fun c => Q (.str ⟨#[c]⟩)) := by
  unfold ixD Fits
  by_cases h : x.length ≤ sizeLine
  · simp only [h, if_true, true_and, OO_map]
  · simp only [h, if_false, false_and, OO_none]
theorem s_str : OO (slD (.str x) lo hi) Q = (Fits x.length ∧ Q (.str (cutStr x lo hi))) := by
  unfold slD Fits
  by_cases h : x.length ≤ sizeLine
  · simp only [h, if_true, true_and, OO_some]
  · simp only [h, if_false, false_and, OO_none]
theorem t_str : OO (truD (.str x)) QB = (Fits x.length ∧ QB ((x.length : Int) != 0)) := by
  unfold truD Fits
  by_cases h : x.length ≤ sizeLine
  · simp only [h, if_true, true_and, OO_some]
  · simp only [h, if_false, false_and, OO_none]
theorem in_str : inD (.str x) (.str y) = some (strIn x y) := by unfold inD; rfl
theorem in_tup : inD a (.tup ys) = inOs a ys := by unfold inD; rfl
theorem in_lst : inD a (.lst ys) = inOs a ys := by unfold inD; rfl
theorem in_dS : inD (.str x) (.dct xs ys) = some (dlook xs ys (.inr x)).isSome := by unfold inD keyOf; rfl
theorem in_dI : inD (.int i) (.dct xs ys) = some (dlook xs ys (.inl i)).isSome := by unfold inD keyOf; rfl
def orB : Option Bool → Option Bool → Option Bool
  | some a, some b => some (a || b)
  | _, _ => none
theorem orB_some : orB (some p) (some q) = some (p || q) := rfl
theorem in_nil : inOs a [] = some false := rfl
theorem in_cons : inOs a (b :: ys) = orB (eqD b a) (inOs a ys) := by
  rw [inOs]
  cases eqD b a <;> cases inOs a ys <;> rfl
theorem in_c1 {c : Nat} : strIn ⟨#[c]⟩ y = decide (c ∈ y.cps.toList) := by
  unfold strIn
  rfl
theorem bools_map {α : Type} {l : List α} {f : α → Bool} : boolsOf (l.map fun a => .bl (f a)) = some (l.map f) := by
  induction l with
  | nil => rfl
  | cons a l ih => simp only [List.map_cons, boolsOf, ih, Option.map_some]
theorem ints_map {α : Type} {l : List α} {f : α → Int} : intsOf (l.map fun a => .int (f a)) = some (l.map f) := by
  induction l with
  | nil => rfl
  | cons a l ih => simp only [List.map_cons, intsOf, ih, Option.map_some]
theorem strs_map {α : Type} {l : List α} {f : α → Str} : strsOf (l.map fun a => .str (f a)) = some (l.map f) := by
  induction l with
  | nil => rfl
  | cons a l ih => simp only [List.map_cons, strsOf, ih, Option.map_some]
end
theorem fm_some {α β : Type} {f : α → Option β} {h : α → β} : ∀ {l : List α}, (∀ a ∈ l, f a = some (h a)) → l.filterMap f = l.map h
  | [], _ => rfl
  | a :: l, k => by
    rw [List.filterMap_cons, k a (List.mem_cons_self ..), fm_some fun x hx => k x (List.mem_cons_of_mem _ hx)]
    rfl
theorem fm_none {α β : Type} {f : α → Option β} : ∀ {l : List α}, (∀ a ∈ l, f a = none) → l.filterMap f = []
  | [], _ => rfl
  | a :: l, k => by
    rw [List.filterMap_cons, k a (List.mem_cons_self ..), fm_none fun x hx => k x (List.mem_cons_of_mem _ hx)]
theorem fm_map {α β γ : Type} {f : β → Option γ} {h : α → β} {l : List α} : (l.map h).filterMap f = l.filterMap fun a => f (h a) := by
  rw [List.filterMap_map]; rfl
theorem enum_get {xs : List D} {i : Nat} {d : D} (h : (enumD xs)[i]? = some d) : ∃ y, xs[i]? = some y ∧ d = .tup [.int (i : Nat), y] := by
  have hi := (List.getElem?_eq_some_iff.mp h).1
  unfold enumD at h hi
  simp only [List.length_map, List.length_range] at hi
  rw [List.getElem?_map, List.getElem?_range hi] at h
  simp only [Option.map_some, Option.some.injEq] at h
  exact ⟨xs[i], List.getElem?_eq_getElem hi, by rw [← h, List.getD_eq_getElem?_getD, List.getElem?_eq_getElem hi]; rfl⟩
theorem mem_cut {xs : List D} {lo hi : Option Int} {d : D} (h : d ∈ cutL xs lo hi) : d ∈ xs :=
  List.mem_of_mem_drop (List.mem_of_mem_take h)
theorem cut_le {xs : List D} {lo hi : Option Int} : (cutL xs lo hi).length ≤ xs.length := by
  unfold cutL
  rw [List.length_take, List.length_drop]
  omega
theorem cells {ns : List Int} {lo hi : Option Int} {c0 : Int} {i : Nat} {d : D} (hl : ns.length ≤ 63) (hd : (enumD (cutL (ns.map D.int ++ [.int c0]) lo hi))[i]? = some d) : ∃ c : Int, d = .tup [.int (i : Nat), .int c] ∧ i ≤ 63 := by
  obtain ⟨y, hy, rfl⟩ := enum_get hd
  have hm := mem_cut (List.mem_of_getElem? hy)
  have hi : i ≤ 63 := by
    have h1 := (List.getElem?_eq_some_iff.mp hy).1
    have h2 : (cutL (ns.map D.int ++ [.int c0]) lo hi).length ≤ _ := cut_le
    simp only [List.length_append, List.length_map, List.length_cons, List.length_nil] at h2
    omega
  simp only [List.mem_append, List.mem_map, List.mem_singleton] at hm
  rcases hm with ⟨c, _, h⟩ | h
  · exact ⟨c, by rw [h], hi⟩
  · exact ⟨c0, by rw [h], hi⟩
theorem log_ok {i : Int} (h : i.natAbs < 2 ^ 64) : i.natAbs.log2 < 1920 := by
  by_cases h0 : i.natAbs = 0
  · rw [h0]; decide
  · have := (Nat.log2_lt h0).mpr h
    omega
theorem e_lst {xs ys : List D} (h : min (dep (.lst xs)) (dep (.lst ys)) ≤ 60) : eqD (.lst xs) (.lst ys) = if xs.length = ys.length then eqOs xs ys else some false := by
  unfold eqD; rw [if_pos h]; unfold eqO; rfl
/-- of a kind that isinstance tells -/
def pl : D → Bool
  | .non | .bl _ | .int _ | .str _ | .tup _ | .lst _ | .dct _ _ => true
  | _ => false
/-- one that changes nothing that stands -/
theorem lc_keep {ds : List D} {body : D → M (Option D)} {g : G} {Q : D → G → Prop} {E : Exn → G → Prop} (f : D → Option D) (hf : Fits ds.length)
    (step : ∀ d g' (Q : Option D → G → Prop), d ∈ ds → Keep [] g g' → (∀ g'', Keep [] g' g'' → Q (f d) g'') → Ok (body d g') Q Never)
    (fin : ∀ g', Keep [] g g' → Q (.lst (ds.filterMap f)) g') : Ok (loopC (.fix ds) g.length body ((It0.fix ds).len (g ++ [.lst []])) 0 (g ++ [.lst []])) (fun _ g' => Ok (endL true g.length g') Q E) E := by
  refine lc_fix (fun i xs g' => Keep [] g g' ∧ xs = (ds.take i).filterMap f ∧ xs.length ≤ i) ⟨.app, by simp, by simp⟩ ?_ ?_
  · rintro i d xs g' hd hg ⟨hK, hx, hl⟩
    have hi : i < ds.length := (List.getElem?_eq_some_iff.mp hd).1
    have ht : ds.take (i + 1) = ds.take i ++ [d] := by
      rw [List.take_add_one, hd]; rfl
    refine step d g' _ (List.mem_of_getElem? hd) hK fun g'' hK2 => ⟨hK2.at hg (by simp), ?_⟩
    cases e : f d with
    | none =>
      refine ⟨hK.trans hK2, ?_, by omega⟩
      rw [ht, List.filterMap_append, ← hx]
      simp [List.filterMap_cons, e]
    | some y =>
      refine ⟨?_, (hK.trans hK2).setIn (.inr (Nat.le_refl _)), ?_, by simp; omega⟩
      · have hs : ds.length ≤ sizeLine := hf
        show xs.length + 1 ≤ sizeLine
        omega
      · rw [ht, List.filterMap_append, ← hx]
        simp [List.filterMap_cons, e]
  · rintro xs g' hg ⟨hK, hx, _⟩
    rw [endT hg, hx, List.take_length]
    exact fin _ (hK.setIn (.inr (Nat.le_refl _)))
end DL

set_option Elab.async false
set_option linter.all false
set_option maxRecDepth 100000
set_option maxHeartbeats 0
namespace K34
open PySem PySem.Spec PyProof.Rows L2 DL
def d_parting : DL.Def := ⟨1, 1, (.cons (.ret (.kget (.gl "PARTINGS") (.cons (.v 0) .nil))) .nil)⟩
def d_plus : DL.Def := ⟨2, 2, (.cons (.ret (.bin .mod (.bin .add (.v 0) (.v 1)) (.gl "PRIME"))) .nil)⟩
def d_less : DL.Def := ⟨2, 2, (.cons (.ret (.bin .mod (.bin .sub (.v 0) (.v 1)) (.gl "PRIME"))) .nil)⟩
def d_times : DL.Def := ⟨2, 2, (.cons (.ret (.bin .mod (.bin .mul (.v 0) (.v 1)) (.gl "PRIME"))) .nil)⟩
def d_least : DL.Def := ⟨2, 2, (.cons (.ret (.bi .min2 (.cons (.v 0) (.cons (.v 1) .nil)))) .nil)⟩
def d_greatest : DL.Def := ⟨2, 2, (.cons (.ret (.bi .max2 (.cons (.v 0) (.cons (.v 1) .nil)))) .nil)⟩
def d_mean : DL.Def := ⟨2, 2, (.cons (.ret (.bin .fdiv (.bin .add (.v 0) (.v 1)) (.int 2))) .nil)⟩
def d_shift : DL.Def := ⟨2, 2, (.cons (.ret (.bin .mod (.bin .add (.bin .mul (.int 2) (.v 0)) (.v 1)) (.gl "PRIME"))) .nil)⟩
def d_deed : DL.Def := ⟨3, 4, (.cons (.asg (.v 3) (.ix (.gl "DONE_BY") (.v 0))) (.cons (.ret (.callv 3 (.cons (.v 1) (.cons (.v 2) .nil)))) .nil))⟩
def d__law_begun : DL.Def := ⟨2, 3, (.cons (.asg (.v 2) (.bin .add (.int 1) (.bin .mod (.bin .pow (.bin .add (.bin .add (.bin .mul (.bin .mod (.v 0) (.int 2147483647)) (.int 48271)) (.bin .mul (.int 104729) (.v 1))) (.int 7)) (.int 3)) (.int 2147483629)))) (.cons (.iff (.cmp .ge (.v 0) (.bin .pow (.int 10) (.int 18))) (.cons (.ret (.lst false (.cons (.bin .sub (.v 0) (.bin .pow (.int 10) (.int 18))) (.cons (.v 2) (.cons (.int 0) .nil))))) .nil) .nil) (.cons (.ret (.lst false (.cons (.int 0) (.cons (.v 2) (.cons (.int 0) .nil))))) .nil)))⟩
def d__law_next : DL.Def := ⟨2, 4, (.cons (.iff (.cmp .gt (.ix (.v 0) (.int 0)) (.int 0)) (.cons (.asg (.v 3) (.bin .mod (.ix (.v 0) (.int 0)) (.v 1))) (.cons (.asg (.ix (.v 0) (.int 0)) (.bin .fdiv (.ix (.v 0) (.int 0)) (.v 1))) (.cons (.ret (.v 3)) .nil))) .nil) (.cons (.asg (.ix (.v 0) (.int 2)) (.bin .add (.ix (.v 0) (.int 2)) (.int 1))) (.cons (.asg (.v 2) (.bin .mod (.bin .pow (.bin .add (.bin .add (.bin .mul (.ix (.v 0) (.int 1)) (.bin .add (.bin .mul (.int 2) (.ix (.v 0) (.int 2))) (.int 1))) (.bin .mul (.bin .mul (.int 7919) (.ix (.v 0) (.int 2))) (.ix (.v 0) (.int 2)))) (.int 11)) (.int 5)) (.int 2147483647))) (.cons (.ret (.bin .mod (.bin .fdiv (.v 2) (.int 11)) (.v 1))) .nil))))⟩
def d__law_deed : DL.Def := ⟨3, 3, (.cons (.iff (.cmp .isin (.v 0) (.tup (.cons (.str "least") (.cons (.str "greatest") .nil)))) (.cons (.ret (.ite (.cmp .eq (.v 0) (.str "least")) (.bi .min2 (.cons (.v 1) (.cons (.v 2) .nil))) (.bi .max2 (.cons (.v 1) (.cons (.v 2) .nil))))) .nil) .nil) (.cons (.iff (.cmp .eq (.v 0) (.str "mean")) (.cons (.ret (.bin .fdiv (.bin .add (.v 1) (.v 2)) (.int 2))) .nil) .nil) (.cons (.ret (.bin .mod (.ix (.dct true (.cons (.str "plus") (.bin .add (.v 1) (.v 2)) (.cons (.str "less") (.bin .sub (.v 1) (.v 2)) (.cons (.str "times") (.bin .mul (.v 1) (.v 2)) (.cons (.str "shift") (.bin .add (.bin .mul (.int 2) (.v 1)) (.v 2)) .nil))))) (.v 0)) (.int 1000003))) .nil)))⟩
def d__law_both : DL.Def := ⟨2, 5, (.cons (.asg (.tup (.cons (.v 2) (.cons (.v 3) (.cons (.v 4) .nil)))) (.v 1)) (.cons (.ret (.tup (.cons (.call "_law_deed" (.cons (.v 0) (.cons (.call "_law_deed" (.cons (.v 0) (.cons (.v 2) (.cons (.v 3) .nil)))) (.cons (.v 4) .nil)))) (.cons (.call "_law_deed" (.cons (.v 0) (.cons (.call "_law_deed" (.cons (.v 0) (.cons (.v 2) (.cons (.v 4) .nil)))) (.cons (.v 3) .nil)))) .nil)))) .nil))⟩
def d__law_whole : DL.Def := ⟨1, 1, (.cons (.ret (.and (.cons (.isi (.v 0) [.int] false) (.cons (.not (.isi (.v 0) [.bool] false)) (.cons (.cmp2 .le .lt (.int 0) (.v 0) (.int 1000003)) .nil))))) .nil)⟩
def d__law_part_right : DL.Def := ⟨1, 5, (.cons (.asg (.v 1) (.call "parting" (.cons (.v 0) .nil))) (.cons (.iff (.or (.cons (.not (.isi (.v 1) [.tuple] false)) (.cons (.cmp .ne (.bi .len (.cons (.v 1) .nil)) (.int 3)) (.cons (.not (.bi .all (.cons (.lc true [4] (.call "_law_whole" (.cons (.v 4) .nil)) (.v 4) (.e (.v 1)) .nil) .nil))) .nil)))) (.cons (.ret (.bl false)) .nil) .nil) (.cons (.asg (.tup (.cons (.v 2) (.cons (.v 3) .nil))) (.call "_law_both" (.cons (.v 0) (.cons (.v 1) .nil)))) (.cons (.ret (.cmp .ne (.v 2) (.v 3))) .nil))))⟩
def d__law_right : DL.Def := ⟨2, 9, (.cons (.asg (.v 2) (.call "_law_begun" (.cons (.v 0) (.cons (.v 1) .nil)))) (.cons (.asg (.v 3) (.lst false .nil)) (.cons (.forr (.v 4) (.rng1 (.int 3)) (.cons (.asg (.v 6) (.call "_law_next" (.cons (.v 2) (.cons (.int 1000003) .nil)))) (.cons (.ex (.mt .append (.v 3) (.cons (.ix (.lst true (.cons (.call "_law_next" (.cons (.v 2) (.cons (.int 4) .nil))) (.cons (.bin .sub (.int 1000002) (.call "_law_next" (.cons (.v 2) (.cons (.int 4) .nil)))) (.cons (.v 6) .nil)))) (.call "_law_next" (.cons (.v 2) (.cons (.int 3) .nil)))) .nil))) .nil))) (.cons (.frz 3) (.cons (.forr (.v 5) (.e (.lst true (.cons (.str "plus") (.cons (.str "less") (.cons (.str "times") (.cons (.str "least") (.cons (.str "greatest") .nil))))))) (.cons (.asg (.tup (.cons (.v 7) (.cons (.v 8) .nil))) (.call "_law_both" (.cons (.v 5) (.cons (.v 3) .nil)))) (.cons (.iff (.or (.cons (.notn (.call "parting" (.cons (.v 5) .nil))) (.cons (.cmp .ne (.v 7) (.v 8)) .nil))) (.cons (.ret (.bl false)) .nil) .nil) (.cons (.iff (.cmp .ne (.call "deed" (.cons (.v 5) (.cons (.call "deed" (.cons (.v 5) (.cons (.ix (.v 3) (.int 0)) (.cons (.ix (.v 3) (.int 1)) .nil)))) (.cons (.ix (.v 3) (.int 2)) .nil)))) (.v 7)) (.cons (.ret (.bl false)) .nil) .nil) .nil)))) (.cons (.ret (.bi .all (.cons (.lc true [5] (.cmp .eq (.call "deed" (.cons (.v 5) (.cons (.ix (.v 3) (.int 0)) (.cons (.ix (.v 3) (.int 1)) .nil)))) (.call "_law_deed" (.cons (.v 5) (.cons (.ix (.v 3) (.int 0)) (.cons (.ix (.v 3) (.int 1)) .nil))))) (.v 5) (.e (.lst true (.cons (.str "mean") (.cons (.str "shift") .nil)))) .nil) .nil))) .nil))))))⟩
def d_law : DL.Def := ⟨1, 3, (.cons (.forr (.tup (.cons (.v 1) (.cons (.v 2) .nil))) (.enum (.sl (.bin .add (.v 0) (.lst true (.cons (.int 3) .nil))) .nil (.cons (.bi .max2 (.cons (.int 1) (.cons (.bi .min2 (.cons (.int 40) (.cons (.bi .len (.cons (.v 0) .nil)) .nil))) .nil))) .nil))) (.cons (.iff (.not (.call "_law_right" (.cons (.v 2) (.cons (.v 1) .nil)))) (.cons (.ret (.bl false)) .nil) .nil) .nil)) (.cons (.ret (.and (.cons (.call "_law_part_right" (.cons (.str "mean") .nil)) (.cons (.call "_law_part_right" (.cons (.str "shift") .nil)) .nil)))) .nil))⟩
def md : DL.Mod := ⟨[⟨"parting", 2, ["deed"], d_parting⟩,
  ⟨"plus", 5, ["a", "b"], d_plus⟩,
  ⟨"less", 6, ["a", "b"], d_less⟩,
  ⟨"times", 7, ["a", "b"], d_times⟩,
  ⟨"least", 8, ["a", "b"], d_least⟩,
  ⟨"greatest", 9, ["a", "b"], d_greatest⟩,
  ⟨"mean", 10, ["a", "b"], d_mean⟩,
  ⟨"shift", 11, ["a", "b"], d_shift⟩,
  ⟨"deed", 13, ["word", "a", "b", "done"], d_deed⟩,
  ⟨"_law_begun", 15, ["_law_cell", "_law_k", "_law_seed"], d__law_begun⟩,
  ⟨"_law_next", 16, ["_law_draw", "_law_size", "_law_mixed", "_law_found"], d__law_next⟩,
  ⟨"_law_deed", 17, ["_law_word", "_law_a", "_law_b"], d__law_deed⟩,
  ⟨"_law_both", 18, ["_law_word", "_law_three", "_law_x", "_law_a", "_law_b"], d__law_both⟩,
  ⟨"_law_whole", 19, ["_law_thing"], d__law_whole⟩,
  ⟨"_law_part_right", 20, ["_law_word", "_law_told", "_law_ahead", "_law_behind", "_law_one"], d__law_part_right⟩,
  ⟨"_law_right", 21, ["_law_cell", "_law_k", "_law_draw", "_law_some", "_law_turn", "_law_word", "_law_great", "_law_ahead", "_law_behind"], d__law_right⟩,
  ⟨"law", 22, ["_law_script", "_law_k", "_law_cell"], d_law⟩],
  [("PRIME", (.int 1000003)), ("PARTINGS", .fn "PARTINGS"), ("DONE_BY", .fn "DONE_BY")],
  [("PARTINGS", [("mean", (.tup [(.int 0), (.int 4), (.int 0)])), ("shift", (.tup [(.int 0), (.int 1), (.int 0)]))]), ("DONE_BY", [("plus", (.fn "plus")), ("less", (.fn "less")), ("times", (.fn "times")), ("least", (.fn "least")), ("greatest", (.fn "greatest")), ("mean", (.fn "mean")), ("shift", (.fn "shift"))])],
  [],
  ["all", "bool", "enumerate", "int", "isinstance", "len", "max", "min", "range", "tuple"],
  10000⟩
theorem D_parting : List.lookup ("parting" : Str) md.tb.defs = some d_parting := rfl
theorem D_plus : List.lookup ("plus" : Str) md.tb.defs = some d_plus := rfl
theorem D_less : List.lookup ("less" : Str) md.tb.defs = some d_less := rfl
theorem D_times : List.lookup ("times" : Str) md.tb.defs = some d_times := rfl
theorem D_least : List.lookup ("least" : Str) md.tb.defs = some d_least := rfl
theorem D_greatest : List.lookup ("greatest" : Str) md.tb.defs = some d_greatest := rfl
theorem D_mean : List.lookup ("mean" : Str) md.tb.defs = some d_mean := rfl
theorem D_shift : List.lookup ("shift" : Str) md.tb.defs = some d_shift := rfl
theorem D_deed : List.lookup ("deed" : Str) md.tb.defs = some d_deed := rfl
theorem D__law_begun : List.lookup ("_law_begun" : Str) md.tb.defs = some d__law_begun := rfl
theorem D__law_next : List.lookup ("_law_next" : Str) md.tb.defs = some d__law_next := rfl
theorem D__law_deed : List.lookup ("_law_deed" : Str) md.tb.defs = some d__law_deed := rfl
theorem D__law_both : List.lookup ("_law_both" : Str) md.tb.defs = some d__law_both := rfl
theorem D__law_whole : List.lookup ("_law_whole" : Str) md.tb.defs = some d__law_whole := rfl
theorem D__law_part_right : List.lookup ("_law_part_right" : Str) md.tb.defs = some d__law_part_right := rfl
theorem D__law_right : List.lookup ("_law_right" : Str) md.tb.defs = some d__law_right := rfl
theorem D_law : List.lookup ("law" : Str) md.tb.defs = some d_law := rfl
theorem G_PRIME : List.lookup ("PRIME" : Str) md.tb.glob = (some (.int 1000003) : Option D) := rfl
theorem G_PARTINGS : List.lookup ("PARTINGS" : Str) md.tb.glob = some (D.fn "PARTINGS") := rfl
theorem G_DONE_BY : List.lookup ("DONE_BY" : Str) md.tb.glob = some (D.fn "DONE_BY") := rfl
theorem A_parting : List.lookup ("parting" : Str) md.tb.arL = some 1 := rfl
theorem A_plus : List.lookup ("plus" : Str) md.tb.arL = some 2 := rfl
theorem A_less : List.lookup ("less" : Str) md.tb.arL = some 2 := rfl
theorem A_times : List.lookup ("times" : Str) md.tb.arL = some 2 := rfl
theorem A_least : List.lookup ("least" : Str) md.tb.arL = some 2 := rfl
theorem A_greatest : List.lookup ("greatest" : Str) md.tb.arL = some 2 := rfl
theorem A_mean : List.lookup ("mean" : Str) md.tb.arL = some 2 := rfl
theorem A_shift : List.lookup ("shift" : Str) md.tb.arL = some 2 := rfl
theorem A_deed : List.lookup ("deed" : Str) md.tb.arL = some 3 := rfl
theorem A__law_begun : List.lookup ("_law_begun" : Str) md.tb.arL = some 2 := rfl
theorem A__law_next : List.lookup ("_law_next" : Str) md.tb.arL = some 2 := rfl
theorem A__law_deed : List.lookup ("_law_deed" : Str) md.tb.arL = some 3 := rfl
theorem A__law_both : List.lookup ("_law_both" : Str) md.tb.arL = some 2 := rfl
theorem A__law_whole : List.lookup ("_law_whole" : Str) md.tb.arL = some 1 := rfl
theorem A__law_part_right : List.lookup ("_law_part_right" : Str) md.tb.arL = some 1 := rfl
theorem A__law_right : List.lookup ("_law_right" : Str) md.tb.arL = some 2 := rfl
theorem A_law : List.lookup ("law" : Str) md.tb.arL = some 1 := rfl
theorem T_PARTINGS : List.lookup ("PARTINGS" : Str) md.tb.kd = some ([("mean", (.tup [(.int 0), (.int 4), (.int 0)])), ("shift", (.tup [(.int 0), (.int 1), (.int 0)]))] : List (Str × D)) := rfl
theorem K_PARTINGS_mean : md.tb.kdL "PARTINGS" "mean" = some (D.tup [(.int 0), (.int 4), (.int 0)]) := rfl
theorem K_PARTINGS_shift : md.tb.kdL "PARTINGS" "shift" = some (D.tup [(.int 0), (.int 1), (.int 0)]) := rfl
theorem T_DONE_BY : List.lookup ("DONE_BY" : Str) md.tb.kd = some ([("plus", (.fn "plus")), ("less", (.fn "less")), ("times", (.fn "times")), ("least", (.fn "least")), ("greatest", (.fn "greatest")), ("mean", (.fn "mean")), ("shift", (.fn "shift"))] : List (Str × D)) := rfl
theorem K_DONE_BY_plus : md.tb.kdL "DONE_BY" "plus" = some (D.fn "plus") := rfl
theorem K_DONE_BY_less : md.tb.kdL "DONE_BY" "less" = some (D.fn "less") := rfl
theorem K_DONE_BY_times : md.tb.kdL "DONE_BY" "times" = some (D.fn "times") := rfl
theorem K_DONE_BY_least : md.tb.kdL "DONE_BY" "least" = some (D.fn "least") := rfl
theorem K_DONE_BY_greatest : md.tb.kdL "DONE_BY" "greatest" = some (D.fn "greatest") := rfl
theorem K_DONE_BY_mean : md.tb.kdL "DONE_BY" "mean" = some (D.fn "mean") := rfl
theorem K_DONE_BY_shift : md.tb.kdL "DONE_BY" "shift" = some (D.fn "shift") := rfl

abbrev PR : Program := PySem.Challenge.pw_roundweave_k34_deeds_that_join
abbrev RWL : PySem.W.OpenLaw := PySem.Challenge.rw_roundweave_k34_deeds_that_join
theorem okB : md.okB PR = true := by decide +kernel
abbrev R0 : PySem.W.OpenRow := PySem.W.OpenLaw.row RWL
abbrev loose : List PySem.Str := ["PARTINGS", "parting", "PRIME", "plus", "less", "times", "least", "greatest", "mean", "shift", "DONE_BY", "deed", "_law_begun", "_law_next", "_law_deed", "_law_both", "_law_whole", "_law_part_right", "_law_right"]
abbrev hk : PySem.W.Hook := He.hookX 5 md.fa (md.fn PR) md.ts [] md.exB

section
variable {n m C : Nat} {g : G} {a b c s : Int} {Q : D → G → Prop} {E : Exn → G → Prop}
theorem sp_begun {k : Int} (h : 0 ≤ k) (h2 : k ≤ 1000) (hq : ∀ g', Dr g.length 0 g' → g'.length = g.length + 1 → Keep [] g g' → Q (.ref g.length) g') : Ok ((cfN md.tb (n + 1)).call "_law_begun" [.int c, .int k] g) Q E := by
  rw [call_def D__law_begun rfl]
  simp (decide := true) only [d__law_begun, o_v, o_non, o_bl, o_int, o_str, o_gl, o_tup, o_lstT, o_lstF, o_dct, o_bin, o_neg, o_not, o_and, o_or, o_and1, o_or1, o_and2, o_or2, o_cmp, o_cmp2, o_isn, o_notn, o_ite, o_ix, o_sl, o_fld, o_call, o_callv, o_bi, o_mt, o_isi, o_lc, o_nil, o_cons, o_pnil, o_pcons, o_part0, o_part1, o_T, o_ifs0, o_ifs1, o_tg, o_tgT, o_tgI, o_tgF, o_tgn, o_tgc, o_I, o_rng1, o_rng2, o_enum, o_zip, o_items, o_vals, o_ssn, o_ssc, th_nx, th_bk, th_ct, th_rt, th_rs, rt_rt, rt_nx, rt_rs, o_ex, o_ret, o_retn, o_asg, o_par, o_augv, o_iff, o_for, o_whl, o_brk, o_cnt, o_pas, o_frz, OO_some, OO_none, Ok_ok, sv0, svS, rdI, rdB, rdS, rdT, rdL, rdD, rdN, rdO, rdF, p_add, p_sub, p_mul, p_fdiv, p_mod, p_pow, p_addS, p_addT, p_addL, c_lt, c_le, c_gt, c_ge, c_eq, c_ne, c_in, c_nin, e_int, e_str, e_bl, t_bl, t_int, t_tup, t_lst, t_non, i_tup, i_lst, i_dS, i_dI, i_fn, s_tupl, s_lstl, n_tup, n_lst, n_dct, n_str, m_tup, m_lst, b_min, b_max, b_abs, b_all, b_any, b_sum, b_sort, isiAny, isiB, parSet, start0, Es.len, Tgs.len, List.map_cons, List.map_nil, List.length_cons, List.length_nil, List.cons_append, List.nil_append, List.replicate, List.set_cons_zero, List.set_cons_succ, Nat.reduceSub, Nat.reduceAdd, Nat.add_zero, Nat.zero_add, Nat.sub_self, Bool.not_true, Bool.not_false, if_true, if_false, Bool.true_and, Bool.and_true, Bool.false_and, Bool.and_false, Bool.not_not, Bool.false_eq_true, true_and, and_true, eq_self, rdR, rdAt, lenO, seqO, lstO, lsdO, dctO, atO, setO, frzO, b_len, b_tup, b_lstT, b_lstF, b_str, mo_app, mo_pop, mo_get, mo_join, a_app, a_pop, a_get, a_get2, a_join, z_set, f_frz, d_disp, d_dispT, q_last, q_set, k_str, k_int, l_nil, l_str, l_int, w_nil, w_str, w_int, dput, dmerge, dOf, intsOf, boolsOf, Option.map_some, Option.getD_some, Option.getD_none, Option.isSome_some, Option.isSome_none, fits_le, fits_lt, fits_s, body_for, ln_nx, ln_ct, ln_bk, ln_rt, ln_rs, Nat.reduceLeDiff, Nat.reduceLT, Nat.reduceMul, Int.reduceLT, Int.reduceLE, Int.reduceAdd, Int.reduceSub, Int.reduceMul, Int.reduceNeg, Int.reducePow, Int.reduceBEq, Int.reduceBNe, Int.reduceToNat, Nat.reduceEqDiff, Int.reduceEq, decide_true, decide_false, ite_true, ite_false, reduceIte, reduceCtorEq, body_lc, wipeE, e_lstn, e_tupn, e_is, e_si, eo_cc, eo_int, eo_str, eo_bl, eo_nn, eo_nc, eo_cn, bothB_some, at0, at1, at2, DL.i_str, DL.s_str, DL.t_str, DL.in_str, DL.in_tup, DL.in_lst, DL.in_dS, DL.in_dI, DL.orB_some, DL.in_nil, DL.in_cons, DL.in_c1, o_kget, k_str1, Int.reduceDiv, Int.reduceMod, mulOk_r, mulOk_l, bound_seed h h2]
  have key : ∀ x y : Int, 0 ≤ x → 0 ≤ y → y < 2147483629 → Q (.ref g.length) (g ++ [.lst [.int x, .int (1 + y), .int 0]]) := by
    intro x y hx hy hy2
    refine hq _ ⟨x, 1 + y, 0, by simp, hx, by omega, by omega, by omega, by omega⟩ (by simp) .app
  split
  · rename_i hc
    exact key _ _ (by have := of_decide_eq_true hc; omega) (by omega) (by omega)
  · exact key _ _ (by omega) (by omega) (by omega)
theorem sp_next (hD : Dr m C g) (hC : C < 1048576) (hs : 0 < s) (hs2 : s < 2 ^ 60)
    (hq : ∀ v g', 0 ≤ v → v < s → Dr m (C + 1) g' → Keep [m] g g' → g'.length = g.length → Q (.int v) g') : Ok ((cfN md.tb (n + 1)).call "_law_next" [.ref m, .int s] g) Q E := by
  obtain ⟨a, b, c, e, h1, h2, h3, h4, h5⟩ := hD
  rw [call_def D__law_next rfl]
  have hm : ∀ o, (g.set m o)[m]? = some o := fun o => set_self e
  have hb := bound_draw (b := b) (c := c + 1) h2 h3 (by omega) (by omega)
  simp only [Int.mul_assoc] at hb
  have m1 : ∀ x : Int, mulOk 2 x = True := fun x => mulOk_l (by decide)
  have m2 : ∀ x : Int, mulOk 7919 x = True := fun x => mulOk_l (by decide)
  have m3 : ∀ x : Int, mulOk (7919 * x) (c + 1) = True := fun x => mulOk_r (by omega)
  have m4 : ∀ x : Int, mulOk b x = True := fun x => mulOk_l (by omega)
  simp (decide := true) only [d__law_next, o_v, o_non, o_bl, o_int, o_str, o_gl, o_tup, o_lstT, o_lstF, o_dct, o_bin, o_neg, o_not, o_and, o_or, o_and1, o_or1, o_and2, o_or2, o_cmp, o_cmp2, o_isn, o_notn, o_ite, o_ix, o_sl, o_fld, o_call, o_callv, o_bi, o_mt, o_isi, o_lc, o_nil, o_cons, o_pnil, o_pcons, o_part0, o_part1, o_T, o_ifs0, o_ifs1, o_tg, o_tgT, o_tgI, o_tgF, o_tgn, o_tgc, o_I, o_rng1, o_rng2, o_enum, o_zip, o_items, o_vals, o_ssn, o_ssc, th_nx, th_bk, th_ct, th_rt, th_rs, rt_rt, rt_nx, rt_rs, o_ex, o_ret, o_retn, o_asg, o_par, o_augv, o_iff, o_for, o_whl, o_brk, o_cnt, o_pas, o_frz, OO_some, OO_none, Ok_ok, sv0, svS, rdI, rdB, rdS, rdT, rdL, rdD, rdN, rdO, rdF, p_add, p_sub, p_mul, p_fdiv, p_mod, p_pow, p_addS, p_addT, p_addL, c_lt, c_le, c_gt, c_ge, c_eq, c_ne, c_in, c_nin, e_int, e_str, e_bl, t_bl, t_int, t_tup, t_lst, t_non, i_tup, i_lst, i_dS, i_dI, i_fn, s_tupl, s_lstl, n_tup, n_lst, n_dct, n_str, m_tup, m_lst, b_min, b_max, b_abs, b_all, b_any, b_sum, b_sort, isiAny, isiB, parSet, start0, Es.len, Tgs.len, List.map_cons, List.map_nil, List.length_cons, List.length_nil, List.cons_append, List.nil_append, List.replicate, List.set_cons_zero, List.set_cons_succ, Nat.reduceSub, Nat.reduceAdd, Nat.add_zero, Nat.zero_add, Nat.sub_self, Bool.not_true, Bool.not_false, if_true, if_false, Bool.true_and, Bool.and_true, Bool.false_and, Bool.and_false, Bool.not_not, Bool.false_eq_true, true_and, and_true, eq_self, rdR, rdAt, lenO, seqO, lstO, lsdO, dctO, atO, setO, frzO, b_len, b_tup, b_lstT, b_lstF, b_str, mo_app, mo_pop, mo_get, mo_join, a_app, a_pop, a_get, a_get2, a_join, z_set, f_frz, d_disp, d_dispT, q_last, q_set, k_str, k_int, l_nil, l_str, l_int, w_nil, w_str, w_int, dput, dmerge, dOf, intsOf, boolsOf, Option.map_some, Option.getD_some, Option.getD_none, Option.isSome_some, Option.isSome_none, fits_le, fits_lt, fits_s, body_for, ln_nx, ln_ct, ln_bk, ln_rt, ln_rs, Nat.reduceLeDiff, Nat.reduceLT, Nat.reduceMul, Int.reduceLT, Int.reduceLE, Int.reduceAdd, Int.reduceSub, Int.reduceMul, Int.reduceNeg, Int.reducePow, Int.reduceBEq, Int.reduceBNe, Int.reduceToNat, Nat.reduceEqDiff, Int.reduceEq, decide_true, decide_false, ite_true, ite_false, reduceIte, reduceCtorEq, body_lc, wipeE, e_lstn, e_tupn, e_is, e_si, eo_cc, eo_int, eo_str, eo_bl, eo_nn, eo_nc, eo_cn, bothB_some, at0, at1, at2, DL.i_str, DL.s_str, DL.t_str, DL.in_str, DL.in_tup, DL.in_lst, DL.in_dS, DL.in_dI, DL.orB_some, DL.in_nil, DL.in_cons, DL.in_c1, o_kget, k_str1, Int.reduceDiv, Int.reduceMod, e, hm, at0, at1, at2, is0, is1, is2, m1, m2, m3, m4, Int.mul_assoc, hb, divOk_t hs (Int.lt_trans hs2 (by decide)), divP11, hs, pos_mod]
  split
  · rename_i hc
    have hc := of_decide_eq_true hc
    exact hq _ _ (Int.emod_nonneg _ (by omega)) (Int.emod_lt_of_pos _ hs) ⟨a / s, b, c, hm _, Int.ediv_nonneg h1 (by omega), h2, h3, h4, by omega⟩ .set (by simp)
  · exact hq _ _ (Int.emod_nonneg _ (by omega)) (Int.emod_lt_of_pos _ hs) ⟨a, b, c + 1, hm _, h1, h2, h3, by omega, by omega⟩ .set (by simp)
end
section
variable {n : Nat} {a b : Int} {g : G} {Q : D → G → Prop} {E : Exn → G → Prop}
theorem pos3 : ((0 : Int) < 1000003) = True := by decide
theorem div2 : divOk 2 = True := by
  simp only [eq_iff_iff, iff_true]
  exact divOk_of (by decide) (by decide)
theorem divP : divOk 1000003 = True := by
  simp only [eq_iff_iff, iff_true]
  exact divOk_of (by decide) (by decide)
theorem sp_plus : Ok ((cfN md.tb (n + 1)).call "plus" [.int a, .int b] g) Q E = Q (.int ((a + b) % 1000003)) g := by
  rw [call_def D_plus rfl]
  simp only [d_plus, o_v, o_non, o_bl, o_int, o_str, o_gl, o_tup, o_lstT, o_lstF, o_dct, o_bin, o_neg, o_not, o_and, o_or, o_and1, o_or1, o_and2, o_or2, o_cmp, o_cmp2, o_isn, o_notn, o_ite, o_ix, o_sl, o_fld, o_call, o_callv, o_bi, o_mt, o_isi, o_lc, o_nil, o_cons, o_pnil, o_pcons, o_part0, o_part1, o_T, o_ifs0, o_ifs1, o_tg, o_tgT, o_tgI, o_tgF, o_tgn, o_tgc, o_I, o_rng1, o_rng2, o_enum, o_zip, o_items, o_vals, o_ssn, o_ssc, th_nx, th_bk, th_ct, th_rt, th_rs, rt_rt, rt_nx, rt_rs, o_ex, o_ret, o_retn, o_asg, o_par, o_augv, o_iff, o_for, o_whl, o_brk, o_cnt, o_pas, o_frz, OO_some, OO_none, Ok_ok, sv0, svS, rdI, rdB, rdS, rdT, rdL, rdD, rdN, rdO, rdF, p_add, p_sub, p_mul, p_fdiv, p_mod, p_pow, p_addS, p_addT, p_addL, c_lt, c_le, c_gt, c_ge, c_eq, c_ne, c_in, c_nin, e_int, e_str, e_bl, t_bl, t_int, t_tup, t_lst, t_non, i_tup, i_lst, i_dS, i_dI, i_fn, s_tupl, s_lstl, n_tup, n_lst, n_dct, n_str, m_tup, m_lst, b_min, b_max, b_abs, b_all, b_any, b_sum, b_sort, isiAny, isiB, parSet, start0, Es.len, Tgs.len, List.map_cons, List.map_nil, List.length_cons, List.length_nil, List.cons_append, List.nil_append, List.replicate, List.set_cons_zero, List.set_cons_succ, Nat.reduceSub, Nat.reduceAdd, Nat.add_zero, Nat.zero_add, Nat.sub_self, Bool.not_true, Bool.not_false, if_true, if_false, Bool.true_and, Bool.and_true, Bool.false_and, Bool.and_false, Bool.not_not, Bool.false_eq_true, true_and, and_true, eq_self, rdR, rdAt, lenO, seqO, lstO, lsdO, dctO, atO, setO, frzO, b_len, b_tup, b_lstT, b_lstF, b_str, mo_app, mo_pop, mo_get, mo_join, a_app, a_pop, a_get, a_get2, a_join, z_set, f_frz, d_disp, d_dispT, q_last, q_set, k_str, k_int, l_nil, l_str, l_int, w_nil, w_str, w_int, dput, dmerge, dOf, intsOf, boolsOf, Option.map_some, Option.getD_some, Option.getD_none, Option.isSome_some, Option.isSome_none, fits_le, fits_lt, fits_s, body_for, ln_nx, ln_ct, ln_bk, ln_rt, ln_rs, Nat.reduceLeDiff, Nat.reduceLT, Nat.reduceMul, Int.reduceLT, Int.reduceLE, Int.reduceAdd, Int.reduceSub, Int.reduceMul, Int.reduceNeg, Int.reducePow, Int.reduceBEq, Int.reduceBNe, Int.reduceToNat, Nat.reduceEqDiff, Int.reduceEq, decide_true, decide_false, ite_true, ite_false, reduceIte, reduceCtorEq, body_lc, wipeE, e_lstn, e_tupn, e_is, e_si, eo_cc, eo_int, eo_str, eo_bl, eo_nn, eo_nc, eo_cn, bothB_some, at0, at1, at2, DL.i_str, DL.s_str, DL.t_str, DL.in_str, DL.in_tup, DL.in_lst, DL.in_dS, DL.in_dI, DL.orB_some, DL.in_nil, DL.in_cons, DL.in_c1, o_kget, k_str1, Int.reduceDiv, Int.reduceMod, G_PRIME, pos3]
theorem sp_less : Ok ((cfN md.tb (n + 1)).call "less" [.int a, .int b] g) Q E = Q (.int ((a - b) % 1000003)) g := by
  rw [call_def D_less rfl]
  simp only [d_less, o_v, o_non, o_bl, o_int, o_str, o_gl, o_tup, o_lstT, o_lstF, o_dct, o_bin, o_neg, o_not, o_and, o_or, o_and1, o_or1, o_and2, o_or2, o_cmp, o_cmp2, o_isn, o_notn, o_ite, o_ix, o_sl, o_fld, o_call, o_callv, o_bi, o_mt, o_isi, o_lc, o_nil, o_cons, o_pnil, o_pcons, o_part0, o_part1, o_T, o_ifs0, o_ifs1, o_tg, o_tgT, o_tgI, o_tgF, o_tgn, o_tgc, o_I, o_rng1, o_rng2, o_enum, o_zip, o_items, o_vals, o_ssn, o_ssc, th_nx, th_bk, th_ct, th_rt, th_rs, rt_rt, rt_nx, rt_rs, o_ex, o_ret, o_retn, o_asg, o_par, o_augv, o_iff, o_for, o_whl, o_brk, o_cnt, o_pas, o_frz, OO_some, OO_none, Ok_ok, sv0, svS, rdI, rdB, rdS, rdT, rdL, rdD, rdN, rdO, rdF, p_add, p_sub, p_mul, p_fdiv, p_mod, p_pow, p_addS, p_addT, p_addL, c_lt, c_le, c_gt, c_ge, c_eq, c_ne, c_in, c_nin, e_int, e_str, e_bl, t_bl, t_int, t_tup, t_lst, t_non, i_tup, i_lst, i_dS, i_dI, i_fn, s_tupl, s_lstl, n_tup, n_lst, n_dct, n_str, m_tup, m_lst, b_min, b_max, b_abs, b_all, b_any, b_sum, b_sort, isiAny, isiB, parSet, start0, Es.len, Tgs.len, List.map_cons, List.map_nil, List.length_cons, List.length_nil, List.cons_append, List.nil_append, List.replicate, List.set_cons_zero, List.set_cons_succ, Nat.reduceSub, Nat.reduceAdd, Nat.add_zero, Nat.zero_add, Nat.sub_self, Bool.not_true, Bool.not_false, if_true, if_false, Bool.true_and, Bool.and_true, Bool.false_and, Bool.and_false, Bool.not_not, Bool.false_eq_true, true_and, and_true, eq_self, rdR, rdAt, lenO, seqO, lstO, lsdO, dctO, atO, setO, frzO, b_len, b_tup, b_lstT, b_lstF, b_str, mo_app, mo_pop, mo_get, mo_join, a_app, a_pop, a_get, a_get2, a_join, z_set, f_frz, d_disp, d_dispT, q_last, q_set, k_str, k_int, l_nil, l_str, l_int, w_nil, w_str, w_int, dput, dmerge, dOf, intsOf, boolsOf, Option.map_some, Option.getD_some, Option.getD_none, Option.isSome_some, Option.isSome_none, fits_le, fits_lt, fits_s, body_for, ln_nx, ln_ct, ln_bk, ln_rt, ln_rs, Nat.reduceLeDiff, Nat.reduceLT, Nat.reduceMul, Int.reduceLT, Int.reduceLE, Int.reduceAdd, Int.reduceSub, Int.reduceMul, Int.reduceNeg, Int.reducePow, Int.reduceBEq, Int.reduceBNe, Int.reduceToNat, Nat.reduceEqDiff, Int.reduceEq, decide_true, decide_false, ite_true, ite_false, reduceIte, reduceCtorEq, body_lc, wipeE, e_lstn, e_tupn, e_is, e_si, eo_cc, eo_int, eo_str, eo_bl, eo_nn, eo_nc, eo_cn, bothB_some, at0, at1, at2, DL.i_str, DL.s_str, DL.t_str, DL.in_str, DL.in_tup, DL.in_lst, DL.in_dS, DL.in_dI, DL.orB_some, DL.in_nil, DL.in_cons, DL.in_c1, o_kget, k_str1, Int.reduceDiv, Int.reduceMod, G_PRIME, pos3]
theorem sp_times (h : a.natAbs < 2 ^ 64) : Ok ((cfN md.tb (n + 1)).call "times" [.int a, .int b] g) Q E = Q (.int (a * b % 1000003)) g := by
  rw [call_def D_times rfl]
  simp only [d_times, o_v, o_non, o_bl, o_int, o_str, o_gl, o_tup, o_lstT, o_lstF, o_dct, o_bin, o_neg, o_not, o_and, o_or, o_and1, o_or1, o_and2, o_or2, o_cmp, o_cmp2, o_isn, o_notn, o_ite, o_ix, o_sl, o_fld, o_call, o_callv, o_bi, o_mt, o_isi, o_lc, o_nil, o_cons, o_pnil, o_pcons, o_part0, o_part1, o_T, o_ifs0, o_ifs1, o_tg, o_tgT, o_tgI, o_tgF, o_tgn, o_tgc, o_I, o_rng1, o_rng2, o_enum, o_zip, o_items, o_vals, o_ssn, o_ssc, th_nx, th_bk, th_ct, th_rt, th_rs, rt_rt, rt_nx, rt_rs, o_ex, o_ret, o_retn, o_asg, o_par, o_augv, o_iff, o_for, o_whl, o_brk, o_cnt, o_pas, o_frz, OO_some, OO_none, Ok_ok, sv0, svS, rdI, rdB, rdS, rdT, rdL, rdD, rdN, rdO, rdF, p_add, p_sub, p_mul, p_fdiv, p_mod, p_pow, p_addS, p_addT, p_addL, c_lt, c_le, c_gt, c_ge, c_eq, c_ne, c_in, c_nin, e_int, e_str, e_bl, t_bl, t_int, t_tup, t_lst, t_non, i_tup, i_lst, i_dS, i_dI, i_fn, s_tupl, s_lstl, n_tup, n_lst, n_dct, n_str, m_tup, m_lst, b_min, b_max, b_abs, b_all, b_any, b_sum, b_sort, isiAny, isiB, parSet, start0, Es.len, Tgs.len, List.map_cons, List.map_nil, List.length_cons, List.length_nil, List.cons_append, List.nil_append, List.replicate, List.set_cons_zero, List.set_cons_succ, Nat.reduceSub, Nat.reduceAdd, Nat.add_zero, Nat.zero_add, Nat.sub_self, Bool.not_true, Bool.not_false, if_true, if_false, Bool.true_and, Bool.and_true, Bool.false_and, Bool.and_false, Bool.not_not, Bool.false_eq_true, true_and, and_true, eq_self, rdR, rdAt, lenO, seqO, lstO, lsdO, dctO, atO, setO, frzO, b_len, b_tup, b_lstT, b_lstF, b_str, mo_app, mo_pop, mo_get, mo_join, a_app, a_pop, a_get, a_get2, a_join, z_set, f_frz, d_disp, d_dispT, q_last, q_set, k_str, k_int, l_nil, l_str, l_int, w_nil, w_str, w_int, dput, dmerge, dOf, intsOf, boolsOf, Option.map_some, Option.getD_some, Option.getD_none, Option.isSome_some, Option.isSome_none, fits_le, fits_lt, fits_s, body_for, ln_nx, ln_ct, ln_bk, ln_rt, ln_rs, Nat.reduceLeDiff, Nat.reduceLT, Nat.reduceMul, Int.reduceLT, Int.reduceLE, Int.reduceAdd, Int.reduceSub, Int.reduceMul, Int.reduceNeg, Int.reducePow, Int.reduceBEq, Int.reduceBNe, Int.reduceToNat, Nat.reduceEqDiff, Int.reduceEq, decide_true, decide_false, ite_true, ite_false, reduceIte, reduceCtorEq, body_lc, wipeE, e_lstn, e_tupn, e_is, e_si, eo_cc, eo_int, eo_str, eo_bl, eo_nn, eo_nc, eo_cn, bothB_some, at0, at1, at2, DL.i_str, DL.s_str, DL.t_str, DL.in_str, DL.in_tup, DL.in_lst, DL.in_dS, DL.in_dI, DL.orB_some, DL.in_nil, DL.in_cons, DL.in_c1, o_kget, k_str1, Int.reduceDiv, Int.reduceMod, G_PRIME, pos3, mulOk_of h]
theorem sp_least : Ok ((cfN md.tb (n + 1)).call "least" [.int a, .int b] g) Q E = Q (.int (if b < a then b else a)) g := by
  rw [call_def D_least rfl]
  simp only [d_least, o_v, o_non, o_bl, o_int, o_str, o_gl, o_tup, o_lstT, o_lstF, o_dct, o_bin, o_neg, o_not, o_and, o_or, o_and1, o_or1, o_and2, o_or2, o_cmp, o_cmp2, o_isn, o_notn, o_ite, o_ix, o_sl, o_fld, o_call, o_callv, o_bi, o_mt, o_isi, o_lc, o_nil, o_cons, o_pnil, o_pcons, o_part0, o_part1, o_T, o_ifs0, o_ifs1, o_tg, o_tgT, o_tgI, o_tgF, o_tgn, o_tgc, o_I, o_rng1, o_rng2, o_enum, o_zip, o_items, o_vals, o_ssn, o_ssc, th_nx, th_bk, th_ct, th_rt, th_rs, rt_rt, rt_nx, rt_rs, o_ex, o_ret, o_retn, o_asg, o_par, o_augv, o_iff, o_for, o_whl, o_brk, o_cnt, o_pas, o_frz, OO_some, OO_none, Ok_ok, sv0, svS, rdI, rdB, rdS, rdT, rdL, rdD, rdN, rdO, rdF, p_add, p_sub, p_mul, p_fdiv, p_mod, p_pow, p_addS, p_addT, p_addL, c_lt, c_le, c_gt, c_ge, c_eq, c_ne, c_in, c_nin, e_int, e_str, e_bl, t_bl, t_int, t_tup, t_lst, t_non, i_tup, i_lst, i_dS, i_dI, i_fn, s_tupl, s_lstl, n_tup, n_lst, n_dct, n_str, m_tup, m_lst, b_min, b_max, b_abs, b_all, b_any, b_sum, b_sort, isiAny, isiB, parSet, start0, Es.len, Tgs.len, List.map_cons, List.map_nil, List.length_cons, List.length_nil, List.cons_append, List.nil_append, List.replicate, List.set_cons_zero, List.set_cons_succ, Nat.reduceSub, Nat.reduceAdd, Nat.add_zero, Nat.zero_add, Nat.sub_self, Bool.not_true, Bool.not_false, if_true, if_false, Bool.true_and, Bool.and_true, Bool.false_and, Bool.and_false, Bool.not_not, Bool.false_eq_true, true_and, and_true, eq_self, rdR, rdAt, lenO, seqO, lstO, lsdO, dctO, atO, setO, frzO, b_len, b_tup, b_lstT, b_lstF, b_str, mo_app, mo_pop, mo_get, mo_join, a_app, a_pop, a_get, a_get2, a_join, z_set, f_frz, d_disp, d_dispT, q_last, q_set, k_str, k_int, l_nil, l_str, l_int, w_nil, w_str, w_int, dput, dmerge, dOf, intsOf, boolsOf, Option.map_some, Option.getD_some, Option.getD_none, Option.isSome_some, Option.isSome_none, fits_le, fits_lt, fits_s, body_for, ln_nx, ln_ct, ln_bk, ln_rt, ln_rs, Nat.reduceLeDiff, Nat.reduceLT, Nat.reduceMul, Int.reduceLT, Int.reduceLE, Int.reduceAdd, Int.reduceSub, Int.reduceMul, Int.reduceNeg, Int.reducePow, Int.reduceBEq, Int.reduceBNe, Int.reduceToNat, Nat.reduceEqDiff, Int.reduceEq, decide_true, decide_false, ite_true, ite_false, reduceIte, reduceCtorEq, body_lc, wipeE, e_lstn, e_tupn, e_is, e_si, eo_cc, eo_int, eo_str, eo_bl, eo_nn, eo_nc, eo_cn, bothB_some, at0, at1, at2, DL.i_str, DL.s_str, DL.t_str, DL.in_str, DL.in_tup, DL.in_lst, DL.in_dS, DL.in_dI, DL.orB_some, DL.in_nil, DL.in_cons, DL.in_c1, o_kget, k_str1, Int.reduceDiv, Int.reduceMod]
theorem sp_greatest : Ok ((cfN md.tb (n + 1)).call "greatest" [.int a, .int b] g) Q E = Q (.int (if b > a then b else a)) g := by
  rw [call_def D_greatest rfl]
  simp only [d_greatest, o_v, o_non, o_bl, o_int, o_str, o_gl, o_tup, o_lstT, o_lstF, o_dct, o_bin, o_neg, o_not, o_and, o_or, o_and1, o_or1, o_and2, o_or2, o_cmp, o_cmp2, o_isn, o_notn, o_ite, o_ix, o_sl, o_fld, o_call, o_callv, o_bi, o_mt, o_isi, o_lc, o_nil, o_cons, o_pnil, o_pcons, o_part0, o_part1, o_T, o_ifs0, o_ifs1, o_tg, o_tgT, o_tgI, o_tgF, o_tgn, o_tgc, o_I, o_rng1, o_rng2, o_enum, o_zip, o_items, o_vals, o_ssn, o_ssc, th_nx, th_bk, th_ct, th_rt, th_rs, rt_rt, rt_nx, rt_rs, o_ex, o_ret, o_retn, o_asg, o_par, o_augv, o_iff, o_for, o_whl, o_brk, o_cnt, o_pas, o_frz, OO_some, OO_none, Ok_ok, sv0, svS, rdI, rdB, rdS, rdT, rdL, rdD, rdN, rdO, rdF, p_add, p_sub, p_mul, p_fdiv, p_mod, p_pow, p_addS, p_addT, p_addL, c_lt, c_le, c_gt, c_ge, c_eq, c_ne, c_in, c_nin, e_int, e_str, e_bl, t_bl, t_int, t_tup, t_lst, t_non, i_tup, i_lst, i_dS, i_dI, i_fn, s_tupl, s_lstl, n_tup, n_lst, n_dct, n_str, m_tup, m_lst, b_min, b_max, b_abs, b_all, b_any, b_sum, b_sort, isiAny, isiB, parSet, start0, Es.len, Tgs.len, List.map_cons, List.map_nil, List.length_cons, List.length_nil, List.cons_append, List.nil_append, List.replicate, List.set_cons_zero, List.set_cons_succ, Nat.reduceSub, Nat.reduceAdd, Nat.add_zero, Nat.zero_add, Nat.sub_self, Bool.not_true, Bool.not_false, if_true, if_false, Bool.true_and, Bool.and_true, Bool.false_and, Bool.and_false, Bool.not_not, Bool.false_eq_true, true_and, and_true, eq_self, rdR, rdAt, lenO, seqO, lstO, lsdO, dctO, atO, setO, frzO, b_len, b_tup, b_lstT, b_lstF, b_str, mo_app, mo_pop, mo_get, mo_join, a_app, a_pop, a_get, a_get2, a_join, z_set, f_frz, d_disp, d_dispT, q_last, q_set, k_str, k_int, l_nil, l_str, l_int, w_nil, w_str, w_int, dput, dmerge, dOf, intsOf, boolsOf, Option.map_some, Option.getD_some, Option.getD_none, Option.isSome_some, Option.isSome_none, fits_le, fits_lt, fits_s, body_for, ln_nx, ln_ct, ln_bk, ln_rt, ln_rs, Nat.reduceLeDiff, Nat.reduceLT, Nat.reduceMul, Int.reduceLT, Int.reduceLE, Int.reduceAdd, Int.reduceSub, Int.reduceMul, Int.reduceNeg, Int.reducePow, Int.reduceBEq, Int.reduceBNe, Int.reduceToNat, Nat.reduceEqDiff, Int.reduceEq, decide_true, decide_false, ite_true, ite_false, reduceIte, reduceCtorEq, body_lc, wipeE, e_lstn, e_tupn, e_is, e_si, eo_cc, eo_int, eo_str, eo_bl, eo_nn, eo_nc, eo_cn, bothB_some, at0, at1, at2, DL.i_str, DL.s_str, DL.t_str, DL.in_str, DL.in_tup, DL.in_lst, DL.in_dS, DL.in_dI, DL.orB_some, DL.in_nil, DL.in_cons, DL.in_c1, o_kget, k_str1, Int.reduceDiv, Int.reduceMod]
theorem sp_mean : Ok ((cfN md.tb (n + 1)).call "mean" [.int a, .int b] g) Q E = Q (.int ((a + b) / 2)) g := by
  rw [call_def D_mean rfl]
  simp only [d_mean, o_v, o_non, o_bl, o_int, o_str, o_gl, o_tup, o_lstT, o_lstF, o_dct, o_bin, o_neg, o_not, o_and, o_or, o_and1, o_or1, o_and2, o_or2, o_cmp, o_cmp2, o_isn, o_notn, o_ite, o_ix, o_sl, o_fld, o_call, o_callv, o_bi, o_mt, o_isi, o_lc, o_nil, o_cons, o_pnil, o_pcons, o_part0, o_part1, o_T, o_ifs0, o_ifs1, o_tg, o_tgT, o_tgI, o_tgF, o_tgn, o_tgc, o_I, o_rng1, o_rng2, o_enum, o_zip, o_items, o_vals, o_ssn, o_ssc, th_nx, th_bk, th_ct, th_rt, th_rs, rt_rt, rt_nx, rt_rs, o_ex, o_ret, o_retn, o_asg, o_par, o_augv, o_iff, o_for, o_whl, o_brk, o_cnt, o_pas, o_frz, OO_some, OO_none, Ok_ok, sv0, svS, rdI, rdB, rdS, rdT, rdL, rdD, rdN, rdO, rdF, p_add, p_sub, p_mul, p_fdiv, p_mod, p_pow, p_addS, p_addT, p_addL, c_lt, c_le, c_gt, c_ge, c_eq, c_ne, c_in, c_nin, e_int, e_str, e_bl, t_bl, t_int, t_tup, t_lst, t_non, i_tup, i_lst, i_dS, i_dI, i_fn, s_tupl, s_lstl, n_tup, n_lst, n_dct, n_str, m_tup, m_lst, b_min, b_max, b_abs, b_all, b_any, b_sum, b_sort, isiAny, isiB, parSet, start0, Es.len, Tgs.len, List.map_cons, List.map_nil, List.length_cons, List.length_nil, List.cons_append, List.nil_append, List.replicate, List.set_cons_zero, List.set_cons_succ, Nat.reduceSub, Nat.reduceAdd, Nat.add_zero, Nat.zero_add, Nat.sub_self, Bool.not_true, Bool.not_false, if_true, if_false, Bool.true_and, Bool.and_true, Bool.false_and, Bool.and_false, Bool.not_not, Bool.false_eq_true, true_and, and_true, eq_self, rdR, rdAt, lenO, seqO, lstO, lsdO, dctO, atO, setO, frzO, b_len, b_tup, b_lstT, b_lstF, b_str, mo_app, mo_pop, mo_get, mo_join, a_app, a_pop, a_get, a_get2, a_join, z_set, f_frz, d_disp, d_dispT, q_last, q_set, k_str, k_int, l_nil, l_str, l_int, w_nil, w_str, w_int, dput, dmerge, dOf, intsOf, boolsOf, Option.map_some, Option.getD_some, Option.getD_none, Option.isSome_some, Option.isSome_none, fits_le, fits_lt, fits_s, body_for, ln_nx, ln_ct, ln_bk, ln_rt, ln_rs, Nat.reduceLeDiff, Nat.reduceLT, Nat.reduceMul, Int.reduceLT, Int.reduceLE, Int.reduceAdd, Int.reduceSub, Int.reduceMul, Int.reduceNeg, Int.reducePow, Int.reduceBEq, Int.reduceBNe, Int.reduceToNat, Nat.reduceEqDiff, Int.reduceEq, decide_true, decide_false, ite_true, ite_false, reduceIte, reduceCtorEq, body_lc, wipeE, e_lstn, e_tupn, e_is, e_si, eo_cc, eo_int, eo_str, eo_bl, eo_nn, eo_nc, eo_cn, bothB_some, at0, at1, at2, DL.i_str, DL.s_str, DL.t_str, DL.in_str, DL.in_tup, DL.in_lst, DL.in_dS, DL.in_dI, DL.orB_some, DL.in_nil, DL.in_cons, DL.in_c1, o_kget, k_str1, Int.reduceDiv, Int.reduceMod, div2]
theorem mul2 : mulOk 2 a = True := by
  simp only [eq_iff_iff, iff_true]
  exact mulOk_of (by decide)
theorem sp_shift : Ok ((cfN md.tb (n + 1)).call "shift" [.int a, .int b] g) Q E = Q (.int ((2 * a + b) % 1000003)) g := by
  rw [call_def D_shift rfl]
  simp only [d_shift, o_v, o_non, o_bl, o_int, o_str, o_gl, o_tup, o_lstT, o_lstF, o_dct, o_bin, o_neg, o_not, o_and, o_or, o_and1, o_or1, o_and2, o_or2, o_cmp, o_cmp2, o_isn, o_notn, o_ite, o_ix, o_sl, o_fld, o_call, o_callv, o_bi, o_mt, o_isi, o_lc, o_nil, o_cons, o_pnil, o_pcons, o_part0, o_part1, o_T, o_ifs0, o_ifs1, o_tg, o_tgT, o_tgI, o_tgF, o_tgn, o_tgc, o_I, o_rng1, o_rng2, o_enum, o_zip, o_items, o_vals, o_ssn, o_ssc, th_nx, th_bk, th_ct, th_rt, th_rs, rt_rt, rt_nx, rt_rs, o_ex, o_ret, o_retn, o_asg, o_par, o_augv, o_iff, o_for, o_whl, o_brk, o_cnt, o_pas, o_frz, OO_some, OO_none, Ok_ok, sv0, svS, rdI, rdB, rdS, rdT, rdL, rdD, rdN, rdO, rdF, p_add, p_sub, p_mul, p_fdiv, p_mod, p_pow, p_addS, p_addT, p_addL, c_lt, c_le, c_gt, c_ge, c_eq, c_ne, c_in, c_nin, e_int, e_str, e_bl, t_bl, t_int, t_tup, t_lst, t_non, i_tup, i_lst, i_dS, i_dI, i_fn, s_tupl, s_lstl, n_tup, n_lst, n_dct, n_str, m_tup, m_lst, b_min, b_max, b_abs, b_all, b_any, b_sum, b_sort, isiAny, isiB, parSet, start0, Es.len, Tgs.len, List.map_cons, List.map_nil, List.length_cons, List.length_nil, List.cons_append, List.nil_append, List.replicate, List.set_cons_zero, List.set_cons_succ, Nat.reduceSub, Nat.reduceAdd, Nat.add_zero, Nat.zero_add, Nat.sub_self, Bool.not_true, Bool.not_false, if_true, if_false, Bool.true_and, Bool.and_true, Bool.false_and, Bool.and_false, Bool.not_not, Bool.false_eq_true, true_and, and_true, eq_self, rdR, rdAt, lenO, seqO, lstO, lsdO, dctO, atO, setO, frzO, b_len, b_tup, b_lstT, b_lstF, b_str, mo_app, mo_pop, mo_get, mo_join, a_app, a_pop, a_get, a_get2, a_join, z_set, f_frz, d_disp, d_dispT, q_last, q_set, k_str, k_int, l_nil, l_str, l_int, w_nil, w_str, w_int, dput, dmerge, dOf, intsOf, boolsOf, Option.map_some, Option.getD_some, Option.getD_none, Option.isSome_some, Option.isSome_none, fits_le, fits_lt, fits_s, body_for, ln_nx, ln_ct, ln_bk, ln_rt, ln_rs, Nat.reduceLeDiff, Nat.reduceLT, Nat.reduceMul, Int.reduceLT, Int.reduceLE, Int.reduceAdd, Int.reduceSub, Int.reduceMul, Int.reduceNeg, Int.reducePow, Int.reduceBEq, Int.reduceBNe, Int.reduceToNat, Nat.reduceEqDiff, Int.reduceEq, decide_true, decide_false, ite_true, ite_false, reduceIte, reduceCtorEq, body_lc, wipeE, e_lstn, e_tupn, e_is, e_si, eo_cc, eo_int, eo_str, eo_bl, eo_nn, eo_nc, eo_cn, bothB_some, at0, at1, at2, DL.i_str, DL.s_str, DL.t_str, DL.in_str, DL.in_tup, DL.in_lst, DL.in_dS, DL.in_dI, DL.orB_some, DL.in_nil, DL.in_cons, DL.in_c1, o_kget, k_str1, Int.reduceDiv, Int.reduceMod, G_PRIME, pos3, mul2]
theorem dd_plus : Ok ((cfN md.tb (n + 2)).call "deed" [.str "plus", .int a, .int b] g) Q E = Q (.int ((a + b) % 1000003)) g := by
  rw [call_def D_deed rfl]
  simp only [d_deed, o_v, o_non, o_bl, o_int, o_str, o_gl, o_tup, o_lstT, o_lstF, o_dct, o_bin, o_neg, o_not, o_and, o_or, o_and1, o_or1, o_and2, o_or2, o_cmp, o_cmp2, o_isn, o_notn, o_ite, o_ix, o_sl, o_fld, o_call, o_callv, o_bi, o_mt, o_isi, o_lc, o_nil, o_cons, o_pnil, o_pcons, o_part0, o_part1, o_T, o_ifs0, o_ifs1, o_tg, o_tgT, o_tgI, o_tgF, o_tgn, o_tgc, o_I, o_rng1, o_rng2, o_enum, o_zip, o_items, o_vals, o_ssn, o_ssc, th_nx, th_bk, th_ct, th_rt, th_rs, rt_rt, rt_nx, rt_rs, o_ex, o_ret, o_retn, o_asg, o_par, o_augv, o_iff, o_for, o_whl, o_brk, o_cnt, o_pas, o_frz, OO_some, OO_none, Ok_ok, sv0, svS, rdI, rdB, rdS, rdT, rdL, rdD, rdN, rdO, rdF, p_add, p_sub, p_mul, p_fdiv, p_mod, p_pow, p_addS, p_addT, p_addL, c_lt, c_le, c_gt, c_ge, c_eq, c_ne, c_in, c_nin, e_int, e_str, e_bl, t_bl, t_int, t_tup, t_lst, t_non, i_tup, i_lst, i_dS, i_dI, i_fn, s_tupl, s_lstl, n_tup, n_lst, n_dct, n_str, m_tup, m_lst, b_min, b_max, b_abs, b_all, b_any, b_sum, b_sort, isiAny, isiB, parSet, start0, Es.len, Tgs.len, List.map_cons, List.map_nil, List.length_cons, List.length_nil, List.cons_append, List.nil_append, List.replicate, List.set_cons_zero, List.set_cons_succ, Nat.reduceSub, Nat.reduceAdd, Nat.add_zero, Nat.zero_add, Nat.sub_self, Bool.not_true, Bool.not_false, if_true, if_false, Bool.true_and, Bool.and_true, Bool.false_and, Bool.and_false, Bool.not_not, Bool.false_eq_true, true_and, and_true, eq_self, rdR, rdAt, lenO, seqO, lstO, lsdO, dctO, atO, setO, frzO, b_len, b_tup, b_lstT, b_lstF, b_str, mo_app, mo_pop, mo_get, mo_join, a_app, a_pop, a_get, a_get2, a_join, z_set, f_frz, d_disp, d_dispT, q_last, q_set, k_str, k_int, l_nil, l_str, l_int, w_nil, w_str, w_int, dput, dmerge, dOf, intsOf, boolsOf, Option.map_some, Option.getD_some, Option.getD_none, Option.isSome_some, Option.isSome_none, fits_le, fits_lt, fits_s, body_for, ln_nx, ln_ct, ln_bk, ln_rt, ln_rs, Nat.reduceLeDiff, Nat.reduceLT, Nat.reduceMul, Int.reduceLT, Int.reduceLE, Int.reduceAdd, Int.reduceSub, Int.reduceMul, Int.reduceNeg, Int.reducePow, Int.reduceBEq, Int.reduceBNe, Int.reduceToNat, Nat.reduceEqDiff, Int.reduceEq, decide_true, decide_false, ite_true, ite_false, reduceIte, reduceCtorEq, body_lc, wipeE, e_lstn, e_tupn, e_is, e_si, eo_cc, eo_int, eo_str, eo_bl, eo_nn, eo_nc, eo_cn, bothB_some, at0, at1, at2, DL.i_str, DL.s_str, DL.t_str, DL.in_str, DL.in_tup, DL.in_lst, DL.in_dS, DL.in_dI, DL.orB_some, DL.in_nil, DL.in_cons, DL.in_c1, o_kget, k_str1, Int.reduceDiv, Int.reduceMod, G_DONE_BY, K_DONE_BY_plus, A_plus, sp_plus]
theorem dd_less : Ok ((cfN md.tb (n + 2)).call "deed" [.str "less", .int a, .int b] g) Q E = Q (.int ((a - b) % 1000003)) g := by
  rw [call_def D_deed rfl]
  simp only [d_deed, o_v, o_non, o_bl, o_int, o_str, o_gl, o_tup, o_lstT, o_lstF, o_dct, o_bin, o_neg, o_not, o_and, o_or, o_and1, o_or1, o_and2, o_or2, o_cmp, o_cmp2, o_isn, o_notn, o_ite, o_ix, o_sl, o_fld, o_call, o_callv, o_bi, o_mt, o_isi, o_lc, o_nil, o_cons, o_pnil, o_pcons, o_part0, o_part1, o_T, o_ifs0, o_ifs1, o_tg, o_tgT, o_tgI, o_tgF, o_tgn, o_tgc, o_I, o_rng1, o_rng2, o_enum, o_zip, o_items, o_vals, o_ssn, o_ssc, th_nx, th_bk, th_ct, th_rt, th_rs, rt_rt, rt_nx, rt_rs, o_ex, o_ret, o_retn, o_asg, o_par, o_augv, o_iff, o_for, o_whl, o_brk, o_cnt, o_pas, o_frz, OO_some, OO_none, Ok_ok, sv0, svS, rdI, rdB, rdS, rdT, rdL, rdD, rdN, rdO, rdF, p_add, p_sub, p_mul, p_fdiv, p_mod, p_pow, p_addS, p_addT, p_addL, c_lt, c_le, c_gt, c_ge, c_eq, c_ne, c_in, c_nin, e_int, e_str, e_bl, t_bl, t_int, t_tup, t_lst, t_non, i_tup, i_lst, i_dS, i_dI, i_fn, s_tupl, s_lstl, n_tup, n_lst, n_dct, n_str, m_tup, m_lst, b_min, b_max, b_abs, b_all, b_any, b_sum, b_sort, isiAny, isiB, parSet, start0, Es.len, Tgs.len, List.map_cons, List.map_nil, List.length_cons, List.length_nil, List.cons_append, List.nil_append, List.replicate, List.set_cons_zero, List.set_cons_succ, Nat.reduceSub, Nat.reduceAdd, Nat.add_zero, Nat.zero_add, Nat.sub_self, Bool.not_true, Bool.not_false, if_true, if_false, Bool.true_and, Bool.and_true, Bool.false_and, Bool.and_false, Bool.not_not, Bool.false_eq_true, true_and, and_true, eq_self, rdR, rdAt, lenO, seqO, lstO, lsdO, dctO, atO, setO, frzO, b_len, b_tup, b_lstT, b_lstF, b_str, mo_app, mo_pop, mo_get, mo_join, a_app, a_pop, a_get, a_get2, a_join, z_set, f_frz, d_disp, d_dispT, q_last, q_set, k_str, k_int, l_nil, l_str, l_int, w_nil, w_str, w_int, dput, dmerge, dOf, intsOf, boolsOf, Option.map_some, Option.getD_some, Option.getD_none, Option.isSome_some, Option.isSome_none, fits_le, fits_lt, fits_s, body_for, ln_nx, ln_ct, ln_bk, ln_rt, ln_rs, Nat.reduceLeDiff, Nat.reduceLT, Nat.reduceMul, Int.reduceLT, Int.reduceLE, Int.reduceAdd, Int.reduceSub, Int.reduceMul, Int.reduceNeg, Int.reducePow, Int.reduceBEq, Int.reduceBNe, Int.reduceToNat, Nat.reduceEqDiff, Int.reduceEq, decide_true, decide_false, ite_true, ite_false, reduceIte, reduceCtorEq, body_lc, wipeE, e_lstn, e_tupn, e_is, e_si, eo_cc, eo_int, eo_str, eo_bl, eo_nn, eo_nc, eo_cn, bothB_some, at0, at1, at2, DL.i_str, DL.s_str, DL.t_str, DL.in_str, DL.in_tup, DL.in_lst, DL.in_dS, DL.in_dI, DL.orB_some, DL.in_nil, DL.in_cons, DL.in_c1, o_kget, k_str1, Int.reduceDiv, Int.reduceMod, G_DONE_BY, K_DONE_BY_less, A_less, sp_less]
theorem dd_times (h : a.natAbs < 2 ^ 64) : Ok ((cfN md.tb (n + 2)).call "deed" [.str "times", .int a, .int b] g) Q E = Q (.int (a * b % 1000003)) g := by
  rw [call_def D_deed rfl]
  simp only [d_deed, o_v, o_non, o_bl, o_int, o_str, o_gl, o_tup, o_lstT, o_lstF, o_dct, o_bin, o_neg, o_not, o_and, o_or, o_and1, o_or1, o_and2, o_or2, o_cmp, o_cmp2, o_isn, o_notn, o_ite, o_ix, o_sl, o_fld, o_call, o_callv, o_bi, o_mt, o_isi, o_lc, o_nil, o_cons, o_pnil, o_pcons, o_part0, o_part1, o_T, o_ifs0, o_ifs1, o_tg, o_tgT, o_tgI, o_tgF, o_tgn, o_tgc, o_I, o_rng1, o_rng2, o_enum, o_zip, o_items, o_vals, o_ssn, o_ssc, th_nx, th_bk, th_ct, th_rt, th_rs, rt_rt, rt_nx, rt_rs, o_ex, o_ret, o_retn, o_asg, o_par, o_augv, o_iff, o_for, o_whl, o_brk, o_cnt, o_pas, o_frz, OO_some, OO_none, Ok_ok, sv0, svS, rdI, rdB, rdS, rdT, rdL, rdD, rdN, rdO, rdF, p_add, p_sub, p_mul, p_fdiv, p_mod, p_pow, p_addS, p_addT, p_addL, c_lt, c_le, c_gt, c_ge, c_eq, c_ne, c_in, c_nin, e_int, e_str, e_bl, t_bl, t_int, t_tup, t_lst, t_non, i_tup, i_lst, i_dS, i_dI, i_fn, s_tupl, s_lstl, n_tup, n_lst, n_dct, n_str, m_tup, m_lst, b_min, b_max, b_abs, b_all, b_any, b_sum, b_sort, isiAny, isiB, parSet, start0, Es.len, Tgs.len, List.map_cons, List.map_nil, List.length_cons, List.length_nil, List.cons_append, List.nil_append, List.replicate, List.set_cons_zero, List.set_cons_succ, Nat.reduceSub, Nat.reduceAdd, Nat.add_zero, Nat.zero_add, Nat.sub_self, Bool.not_true, Bool.not_false, if_true, if_false, Bool.true_and, Bool.and_true, Bool.false_and, Bool.and_false, Bool.not_not, Bool.false_eq_true, true_and, and_true, eq_self, rdR, rdAt, lenO, seqO, lstO, lsdO, dctO, atO, setO, frzO, b_len, b_tup, b_lstT, b_lstF, b_str, mo_app, mo_pop, mo_get, mo_join, a_app, a_pop, a_get, a_get2, a_join, z_set, f_frz, d_disp, d_dispT, q_last, q_set, k_str, k_int, l_nil, l_str, l_int, w_nil, w_str, w_int, dput, dmerge, dOf, intsOf, boolsOf, Option.map_some, Option.getD_some, Option.getD_none, Option.isSome_some, Option.isSome_none, fits_le, fits_lt, fits_s, body_for, ln_nx, ln_ct, ln_bk, ln_rt, ln_rs, Nat.reduceLeDiff, Nat.reduceLT, Nat.reduceMul, Int.reduceLT, Int.reduceLE, Int.reduceAdd, Int.reduceSub, Int.reduceMul, Int.reduceNeg, Int.reducePow, Int.reduceBEq, Int.reduceBNe, Int.reduceToNat, Nat.reduceEqDiff, Int.reduceEq, decide_true, decide_false, ite_true, ite_false, reduceIte, reduceCtorEq, body_lc, wipeE, e_lstn, e_tupn, e_is, e_si, eo_cc, eo_int, eo_str, eo_bl, eo_nn, eo_nc, eo_cn, bothB_some, at0, at1, at2, DL.i_str, DL.s_str, DL.t_str, DL.in_str, DL.in_tup, DL.in_lst, DL.in_dS, DL.in_dI, DL.orB_some, DL.in_nil, DL.in_cons, DL.in_c1, o_kget, k_str1, Int.reduceDiv, Int.reduceMod, G_DONE_BY, K_DONE_BY_times, A_times, sp_times h]
theorem dd_least : Ok ((cfN md.tb (n + 2)).call "deed" [.str "least", .int a, .int b] g) Q E = Q (.int (if b < a then b else a)) g := by
  rw [call_def D_deed rfl]
  simp only [d_deed, o_v, o_non, o_bl, o_int, o_str, o_gl, o_tup, o_lstT, o_lstF, o_dct, o_bin, o_neg, o_not, o_and, o_or, o_and1, o_or1, o_and2, o_or2, o_cmp, o_cmp2, o_isn, o_notn, o_ite, o_ix, o_sl, o_fld, o_call, o_callv, o_bi, o_mt, o_isi, o_lc, o_nil, o_cons, o_pnil, o_pcons, o_part0, o_part1, o_T, o_ifs0, o_ifs1, o_tg, o_tgT, o_tgI, o_tgF, o_tgn, o_tgc, o_I, o_rng1, o_rng2, o_enum, o_zip, o_items, o_vals, o_ssn, o_ssc, th_nx, th_bk, th_ct, th_rt, th_rs, rt_rt, rt_nx, rt_rs, o_ex, o_ret, o_retn, o_asg, o_par, o_augv, o_iff, o_for, o_whl, o_brk, o_cnt, o_pas, o_frz, OO_some, OO_none, Ok_ok, sv0, svS, rdI, rdB, rdS, rdT, rdL, rdD, rdN, rdO, rdF, p_add, p_sub, p_mul, p_fdiv, p_mod, p_pow, p_addS, p_addT, p_addL, c_lt, c_le, c_gt, c_ge, c_eq, c_ne, c_in, c_nin, e_int, e_str, e_bl, t_bl, t_int, t_tup, t_lst, t_non, i_tup, i_lst, i_dS, i_dI, i_fn, s_tupl, s_lstl, n_tup, n_lst, n_dct, n_str, m_tup, m_lst, b_min, b_max, b_abs, b_all, b_any, b_sum, b_sort, isiAny, isiB, parSet, start0, Es.len, Tgs.len, List.map_cons, List.map_nil, List.length_cons, List.length_nil, List.cons_append, List.nil_append, List.replicate, List.set_cons_zero, List.set_cons_succ, Nat.reduceSub, Nat.reduceAdd, Nat.add_zero, Nat.zero_add, Nat.sub_self, Bool.not_true, Bool.not_false, if_true, if_false, Bool.true_and, Bool.and_true, Bool.false_and, Bool.and_false, Bool.not_not, Bool.false_eq_true, true_and, and_true, eq_self, rdR, rdAt, lenO, seqO, lstO, lsdO, dctO, atO, setO, frzO, b_len, b_tup, b_lstT, b_lstF, b_str, mo_app, mo_pop, mo_get, mo_join, a_app, a_pop, a_get, a_get2, a_join, z_set, f_frz, d_disp, d_dispT, q_last, q_set, k_str, k_int, l_nil, l_str, l_int, w_nil, w_str, w_int, dput, dmerge, dOf, intsOf, boolsOf, Option.map_some, Option.getD_some, Option.getD_none, Option.isSome_some, Option.isSome_none, fits_le, fits_lt, fits_s, body_for, ln_nx, ln_ct, ln_bk, ln_rt, ln_rs, Nat.reduceLeDiff, Nat.reduceLT, Nat.reduceMul, Int.reduceLT, Int.reduceLE, Int.reduceAdd, Int.reduceSub, Int.reduceMul, Int.reduceNeg, Int.reducePow, Int.reduceBEq, Int.reduceBNe, Int.reduceToNat, Nat.reduceEqDiff, Int.reduceEq, decide_true, decide_false, ite_true, ite_false, reduceIte, reduceCtorEq, body_lc, wipeE, e_lstn, e_tupn, e_is, e_si, eo_cc, eo_int, eo_str, eo_bl, eo_nn, eo_nc, eo_cn, bothB_some, at0, at1, at2, DL.i_str, DL.s_str, DL.t_str, DL.in_str, DL.in_tup, DL.in_lst, DL.in_dS, DL.in_dI, DL.orB_some, DL.in_nil, DL.in_cons, DL.in_c1, o_kget, k_str1, Int.reduceDiv, Int.reduceMod, G_DONE_BY, K_DONE_BY_least, A_least, sp_least]
theorem dd_greatest : Ok ((cfN md.tb (n + 2)).call "deed" [.str "greatest", .int a, .int b] g) Q E = Q (.int (if b > a then b else a)) g := by
  rw [call_def D_deed rfl]
  simp only [d_deed, o_v, o_non, o_bl, o_int, o_str, o_gl, o_tup, o_lstT, o_lstF, o_dct, o_bin, o_neg, o_not, o_and, o_or, o_and1, o_or1, o_and2, o_or2, o_cmp, o_cmp2, o_isn, o_notn, o_ite, o_ix, o_sl, o_fld, o_call, o_callv, o_bi, o_mt, o_isi, o_lc, o_nil, o_cons, o_pnil, o_pcons, o_part0, o_part1, o_T, o_ifs0, o_ifs1, o_tg, o_tgT, o_tgI, o_tgF, o_tgn, o_tgc, o_I, o_rng1, o_rng2, o_enum, o_zip, o_items, o_vals, o_ssn, o_ssc, th_nx, th_bk, th_ct, th_rt, th_rs, rt_rt, rt_nx, rt_rs, o_ex, o_ret, o_retn, o_asg, o_par, o_augv, o_iff, o_for, o_whl, o_brk, o_cnt, o_pas, o_frz, OO_some, OO_none, Ok_ok, sv0, svS, rdI, rdB, rdS, rdT, rdL, rdD, rdN, rdO, rdF, p_add, p_sub, p_mul, p_fdiv, p_mod, p_pow, p_addS, p_addT, p_addL, c_lt, c_le, c_gt, c_ge, c_eq, c_ne, c_in, c_nin, e_int, e_str, e_bl, t_bl, t_int, t_tup, t_lst, t_non, i_tup, i_lst, i_dS, i_dI, i_fn, s_tupl, s_lstl, n_tup, n_lst, n_dct, n_str, m_tup, m_lst, b_min, b_max, b_abs, b_all, b_any, b_sum, b_sort, isiAny, isiB, parSet, start0, Es.len, Tgs.len, List.map_cons, List.map_nil, List.length_cons, List.length_nil, List.cons_append, List.nil_append, List.replicate, List.set_cons_zero, List.set_cons_succ, Nat.reduceSub, Nat.reduceAdd, Nat.add_zero, Nat.zero_add, Nat.sub_self, Bool.not_true, Bool.not_false, if_true, if_false, Bool.true_and, Bool.and_true, Bool.false_and, Bool.and_false, Bool.not_not, Bool.false_eq_true, true_and, and_true, eq_self, rdR, rdAt, lenO, seqO, lstO, lsdO, dctO, atO, setO, frzO, b_len, b_tup, b_lstT, b_lstF, b_str, mo_app, mo_pop, mo_get, mo_join, a_app, a_pop, a_get, a_get2, a_join, z_set, f_frz, d_disp, d_dispT, q_last, q_set, k_str, k_int, l_nil, l_str, l_int, w_nil, w_str, w_int, dput, dmerge, dOf, intsOf, boolsOf, Option.map_some, Option.getD_some, Option.getD_none, Option.isSome_some, Option.isSome_none, fits_le, fits_lt, fits_s, body_for, ln_nx, ln_ct, ln_bk, ln_rt, ln_rs, Nat.reduceLeDiff, Nat.reduceLT, Nat.reduceMul, Int.reduceLT, Int.reduceLE, Int.reduceAdd, Int.reduceSub, Int.reduceMul, Int.reduceNeg, Int.reducePow, Int.reduceBEq, Int.reduceBNe, Int.reduceToNat, Nat.reduceEqDiff, Int.reduceEq, decide_true, decide_false, ite_true, ite_false, reduceIte, reduceCtorEq, body_lc, wipeE, e_lstn, e_tupn, e_is, e_si, eo_cc, eo_int, eo_str, eo_bl, eo_nn, eo_nc, eo_cn, bothB_some, at0, at1, at2, DL.i_str, DL.s_str, DL.t_str, DL.in_str, DL.in_tup, DL.in_lst, DL.in_dS, DL.in_dI, DL.orB_some, DL.in_nil, DL.in_cons, DL.in_c1, o_kget, k_str1, Int.reduceDiv, Int.reduceMod, G_DONE_BY, K_DONE_BY_greatest, A_greatest, sp_greatest]
theorem dd_mean : Ok ((cfN md.tb (n + 2)).call "deed" [.str "mean", .int a, .int b] g) Q E = Q (.int ((a + b) / 2)) g := by
  rw [call_def D_deed rfl]
  simp only [d_deed, o_v, o_non, o_bl, o_int, o_str, o_gl, o_tup, o_lstT, o_lstF, o_dct, o_bin, o_neg, o_not, o_and, o_or, o_and1, o_or1, o_and2, o_or2, o_cmp, o_cmp2, o_isn, o_notn, o_ite, o_ix, o_sl, o_fld, o_call, o_callv, o_bi, o_mt, o_isi, o_lc, o_nil, o_cons, o_pnil, o_pcons, o_part0, o_part1, o_T, o_ifs0, o_ifs1, o_tg, o_tgT, o_tgI, o_tgF, o_tgn, o_tgc, o_I, o_rng1, o_rng2, o_enum, o_zip, o_items, o_vals, o_ssn, o_ssc, th_nx, th_bk, th_ct, th_rt, th_rs, rt_rt, rt_nx, rt_rs, o_ex, o_ret, o_retn, o_asg, o_par, o_augv, o_iff, o_for, o_whl, o_brk, o_cnt, o_pas, o_frz, OO_some, OO_none, Ok_ok, sv0, svS, rdI, rdB, rdS, rdT, rdL, rdD, rdN, rdO, rdF, p_add, p_sub, p_mul, p_fdiv, p_mod, p_pow, p_addS, p_addT, p_addL, c_lt, c_le, c_gt, c_ge, c_eq, c_ne, c_in, c_nin, e_int, e_str, e_bl, t_bl, t_int, t_tup, t_lst, t_non, i_tup, i_lst, i_dS, i_dI, i_fn, s_tupl, s_lstl, n_tup, n_lst, n_dct, n_str, m_tup, m_lst, b_min, b_max, b_abs, b_all, b_any, b_sum, b_sort, isiAny, isiB, parSet, start0, Es.len, Tgs.len, List.map_cons, List.map_nil, List.length_cons, List.length_nil, List.cons_append, List.nil_append, List.replicate, List.set_cons_zero, List.set_cons_succ, Nat.reduceSub, Nat.reduceAdd, Nat.add_zero, Nat.zero_add, Nat.sub_self, Bool.not_true, Bool.not_false, if_true, if_false, Bool.true_and, Bool.and_true, Bool.false_and, Bool.and_false, Bool.not_not, Bool.false_eq_true, true_and, and_true, eq_self, rdR, rdAt, lenO, seqO, lstO, lsdO, dctO, atO, setO, frzO, b_len, b_tup, b_lstT, b_lstF, b_str, mo_app, mo_pop, mo_get, mo_join, a_app, a_pop, a_get, a_get2, a_join, z_set, f_frz, d_disp, d_dispT, q_last, q_set, k_str, k_int, l_nil, l_str, l_int, w_nil, w_str, w_int, dput, dmerge, dOf, intsOf, boolsOf, Option.map_some, Option.getD_some, Option.getD_none, Option.isSome_some, Option.isSome_none, fits_le, fits_lt, fits_s, body_for, ln_nx, ln_ct, ln_bk, ln_rt, ln_rs, Nat.reduceLeDiff, Nat.reduceLT, Nat.reduceMul, Int.reduceLT, Int.reduceLE, Int.reduceAdd, Int.reduceSub, Int.reduceMul, Int.reduceNeg, Int.reducePow, Int.reduceBEq, Int.reduceBNe, Int.reduceToNat, Nat.reduceEqDiff, Int.reduceEq, decide_true, decide_false, ite_true, ite_false, reduceIte, reduceCtorEq, body_lc, wipeE, e_lstn, e_tupn, e_is, e_si, eo_cc, eo_int, eo_str, eo_bl, eo_nn, eo_nc, eo_cn, bothB_some, at0, at1, at2, DL.i_str, DL.s_str, DL.t_str, DL.in_str, DL.in_tup, DL.in_lst, DL.in_dS, DL.in_dI, DL.orB_some, DL.in_nil, DL.in_cons, DL.in_c1, o_kget, k_str1, Int.reduceDiv, Int.reduceMod, G_DONE_BY, K_DONE_BY_mean, A_mean, sp_mean]
theorem dd_shift : Ok ((cfN md.tb (n + 2)).call "deed" [.str "shift", .int a, .int b] g) Q E = Q (.int ((2 * a + b) % 1000003)) g := by
  rw [call_def D_deed rfl]
  simp only [d_deed, o_v, o_non, o_bl, o_int, o_str, o_gl, o_tup, o_lstT, o_lstF, o_dct, o_bin, o_neg, o_not, o_and, o_or, o_and1, o_or1, o_and2, o_or2, o_cmp, o_cmp2, o_isn, o_notn, o_ite, o_ix, o_sl, o_fld, o_call, o_callv, o_bi, o_mt, o_isi, o_lc, o_nil, o_cons, o_pnil, o_pcons, o_part0, o_part1, o_T, o_ifs0, o_ifs1, o_tg, o_tgT, o_tgI, o_tgF, o_tgn, o_tgc, o_I, o_rng1, o_rng2, o_enum, o_zip, o_items, o_vals, o_ssn, o_ssc, th_nx, th_bk, th_ct, th_rt, th_rs, rt_rt, rt_nx, rt_rs, o_ex, o_ret, o_retn, o_asg, o_par, o_augv, o_iff, o_for, o_whl, o_brk, o_cnt, o_pas, o_frz, OO_some, OO_none, Ok_ok, sv0, svS, rdI, rdB, rdS, rdT, rdL, rdD, rdN, rdO, rdF, p_add, p_sub, p_mul, p_fdiv, p_mod, p_pow, p_addS, p_addT, p_addL, c_lt, c_le, c_gt, c_ge, c_eq, c_ne, c_in, c_nin, e_int, e_str, e_bl, t_bl, t_int, t_tup, t_lst, t_non, i_tup, i_lst, i_dS, i_dI, i_fn, s_tupl, s_lstl, n_tup, n_lst, n_dct, n_str, m_tup, m_lst, b_min, b_max, b_abs, b_all, b_any, b_sum, b_sort, isiAny, isiB, parSet, start0, Es.len, Tgs.len, List.map_cons, List.map_nil, List.length_cons, List.length_nil, List.cons_append, List.nil_append, List.replicate, List.set_cons_zero, List.set_cons_succ, Nat.reduceSub, Nat.reduceAdd, Nat.add_zero, Nat.zero_add, Nat.sub_self, Bool.not_true, Bool.not_false, if_true, if_false, Bool.true_and, Bool.and_true, Bool.false_and, Bool.and_false, Bool.not_not, Bool.false_eq_true, true_and, and_true, eq_self, rdR, rdAt, lenO, seqO, lstO, lsdO, dctO, atO, setO, frzO, b_len, b_tup, b_lstT, b_lstF, b_str, mo_app, mo_pop, mo_get, mo_join, a_app, a_pop, a_get, a_get2, a_join, z_set, f_frz, d_disp, d_dispT, q_last, q_set, k_str, k_int, l_nil, l_str, l_int, w_nil, w_str, w_int, dput, dmerge, dOf, intsOf, boolsOf, Option.map_some, Option.getD_some, Option.getD_none, Option.isSome_some, Option.isSome_none, fits_le, fits_lt, fits_s, body_for, ln_nx, ln_ct, ln_bk, ln_rt, ln_rs, Nat.reduceLeDiff, Nat.reduceLT, Nat.reduceMul, Int.reduceLT, Int.reduceLE, Int.reduceAdd, Int.reduceSub, Int.reduceMul, Int.reduceNeg, Int.reducePow, Int.reduceBEq, Int.reduceBNe, Int.reduceToNat, Nat.reduceEqDiff, Int.reduceEq, decide_true, decide_false, ite_true, ite_false, reduceIte, reduceCtorEq, body_lc, wipeE, e_lstn, e_tupn, e_is, e_si, eo_cc, eo_int, eo_str, eo_bl, eo_nn, eo_nc, eo_cn, bothB_some, at0, at1, at2, DL.i_str, DL.s_str, DL.t_str, DL.in_str, DL.in_tup, DL.in_lst, DL.in_dS, DL.in_dI, DL.orB_some, DL.in_nil, DL.in_cons, DL.in_c1, o_kget, k_str1, Int.reduceDiv, Int.reduceMod, G_DONE_BY, K_DONE_BY_shift, A_shift, sp_shift]
end
section
variable {n m C : Nat} {g : G} {a b x : Int} {Q : D → G → Prop} {E : Exn → G → Prop}
theorem ld_plus (h : a.natAbs < 2 ^ 64) : Ok ((cfN md.tb (n + 1)).call "_law_deed" [.str "plus", .int a, .int b] g) Q E = Q (.int ((a + b) % 1000003)) (g ++ [.gone]) := by
  rw [call_def D__law_deed rfl]
  simp (decide := true) only [d__law_deed, o_v, o_non, o_bl, o_int, o_str, o_gl, o_tup, o_lstT, o_lstF, o_dct, o_bin, o_neg, o_not, o_and, o_or, o_and1, o_or1, o_and2, o_or2, o_cmp, o_cmp2, o_isn, o_notn, o_ite, o_ix, o_sl, o_fld, o_call, o_callv, o_bi, o_mt, o_isi, o_lc, o_nil, o_cons, o_pnil, o_pcons, o_part0, o_part1, o_T, o_ifs0, o_ifs1, o_tg, o_tgT, o_tgI, o_tgF, o_tgn, o_tgc, o_I, o_rng1, o_rng2, o_enum, o_zip, o_items, o_vals, o_ssn, o_ssc, th_nx, th_bk, th_ct, th_rt, th_rs, rt_rt, rt_nx, rt_rs, o_ex, o_ret, o_retn, o_asg, o_par, o_augv, o_iff, o_for, o_whl, o_brk, o_cnt, o_pas, o_frz, OO_some, OO_none, Ok_ok, sv0, svS, rdI, rdB, rdS, rdT, rdL, rdD, rdN, rdO, rdF, p_add, p_sub, p_mul, p_fdiv, p_mod, p_pow, p_addS, p_addT, p_addL, c_lt, c_le, c_gt, c_ge, c_eq, c_ne, c_in, c_nin, e_int, e_str, e_bl, t_bl, t_int, t_tup, t_lst, t_non, i_tup, i_lst, i_dS, i_dI, i_fn, s_tupl, s_lstl, n_tup, n_lst, n_dct, n_str, m_tup, m_lst, b_min, b_max, b_abs, b_all, b_any, b_sum, b_sort, isiAny, isiB, parSet, start0, Es.len, Tgs.len, List.map_cons, List.map_nil, List.length_cons, List.length_nil, List.cons_append, List.nil_append, List.replicate, List.set_cons_zero, List.set_cons_succ, Nat.reduceSub, Nat.reduceAdd, Nat.add_zero, Nat.zero_add, Nat.sub_self, Bool.not_true, Bool.not_false, if_true, if_false, Bool.true_and, Bool.and_true, Bool.false_and, Bool.and_false, Bool.not_not, Bool.false_eq_true, true_and, and_true, eq_self, rdR, rdAt, lenO, seqO, lstO, lsdO, dctO, atO, setO, frzO, b_len, b_tup, b_lstT, b_lstF, b_str, mo_app, mo_pop, mo_get, mo_join, a_app, a_pop, a_get, a_get2, a_join, z_set, f_frz, d_disp, d_dispT, q_last, q_set, k_str, k_int, l_nil, l_str, l_int, w_nil, w_str, w_int, dput, dmerge, dOf, intsOf, boolsOf, Option.map_some, Option.getD_some, Option.getD_none, Option.isSome_some, Option.isSome_none, fits_le, fits_lt, fits_s, body_for, ln_nx, ln_ct, ln_bk, ln_rt, ln_rs, Nat.reduceLeDiff, Nat.reduceLT, Nat.reduceMul, Int.reduceLT, Int.reduceLE, Int.reduceAdd, Int.reduceSub, Int.reduceMul, Int.reduceNeg, Int.reducePow, Int.reduceBEq, Int.reduceBNe, Int.reduceToNat, Nat.reduceEqDiff, Int.reduceEq, decide_true, decide_false, ite_true, ite_false, reduceIte, reduceCtorEq, body_lc, wipeE, e_lstn, e_tupn, e_is, e_si, eo_cc, eo_int, eo_str, eo_bl, eo_nn, eo_nc, eo_cn, bothB_some, at0, at1, at2, DL.i_str, DL.s_str, DL.t_str, DL.in_str, DL.in_tup, DL.in_lst, DL.in_dS, DL.in_dI, DL.orB_some, DL.in_nil, DL.in_cons, DL.in_c1, o_kget, k_str1, Int.reduceDiv, Int.reduceMod, mulOk_l h, mul2, pos3]
theorem ld_less (h : a.natAbs < 2 ^ 64) : Ok ((cfN md.tb (n + 1)).call "_law_deed" [.str "less", .int a, .int b] g) Q E = Q (.int ((a - b) % 1000003)) (g ++ [.gone]) := by
  rw [call_def D__law_deed rfl]
  simp (decide := true) only [d__law_deed, o_v, o_non, o_bl, o_int, o_str, o_gl, o_tup, o_lstT, o_lstF, o_dct, o_bin, o_neg, o_not, o_and, o_or, o_and1, o_or1, o_and2, o_or2, o_cmp, o_cmp2, o_isn, o_notn, o_ite, o_ix, o_sl, o_fld, o_call, o_callv, o_bi, o_mt, o_isi, o_lc, o_nil, o_cons, o_pnil, o_pcons, o_part0, o_part1, o_T, o_ifs0, o_ifs1, o_tg, o_tgT, o_tgI, o_tgF, o_tgn, o_tgc, o_I, o_rng1, o_rng2, o_enum, o_zip, o_items, o_vals, o_ssn, o_ssc, th_nx, th_bk, th_ct, th_rt, th_rs, rt_rt, rt_nx, rt_rs, o_ex, o_ret, o_retn, o_asg, o_par, o_augv, o_iff, o_for, o_whl, o_brk, o_cnt, o_pas, o_frz, OO_some, OO_none, Ok_ok, sv0, svS, rdI, rdB, rdS, rdT, rdL, rdD, rdN, rdO, rdF, p_add, p_sub, p_mul, p_fdiv, p_mod, p_pow, p_addS, p_addT, p_addL, c_lt, c_le, c_gt, c_ge, c_eq, c_ne, c_in, c_nin, e_int, e_str, e_bl, t_bl, t_int, t_tup, t_lst, t_non, i_tup, i_lst, i_dS, i_dI, i_fn, s_tupl, s_lstl, n_tup, n_lst, n_dct, n_str, m_tup, m_lst, b_min, b_max, b_abs, b_all, b_any, b_sum, b_sort, isiAny, isiB, parSet, start0, Es.len, Tgs.len, List.map_cons, List.map_nil, List.length_cons, List.length_nil, List.cons_append, List.nil_append, List.replicate, List.set_cons_zero, List.set_cons_succ, Nat.reduceSub, Nat.reduceAdd, Nat.add_zero, Nat.zero_add, Nat.sub_self, Bool.not_true, Bool.not_false, if_true, if_false, Bool.true_and, Bool.and_true, Bool.false_and, Bool.and_false, Bool.not_not, Bool.false_eq_true, true_and, and_true, eq_self, rdR, rdAt, lenO, seqO, lstO, lsdO, dctO, atO, setO, frzO, b_len, b_tup, b_lstT, b_lstF, b_str, mo_app, mo_pop, mo_get, mo_join, a_app, a_pop, a_get, a_get2, a_join, z_set, f_frz, d_disp, d_dispT, q_last, q_set, k_str, k_int, l_nil, l_str, l_int, w_nil, w_str, w_int, dput, dmerge, dOf, intsOf, boolsOf, Option.map_some, Option.getD_some, Option.getD_none, Option.isSome_some, Option.isSome_none, fits_le, fits_lt, fits_s, body_for, ln_nx, ln_ct, ln_bk, ln_rt, ln_rs, Nat.reduceLeDiff, Nat.reduceLT, Nat.reduceMul, Int.reduceLT, Int.reduceLE, Int.reduceAdd, Int.reduceSub, Int.reduceMul, Int.reduceNeg, Int.reducePow, Int.reduceBEq, Int.reduceBNe, Int.reduceToNat, Nat.reduceEqDiff, Int.reduceEq, decide_true, decide_false, ite_true, ite_false, reduceIte, reduceCtorEq, body_lc, wipeE, e_lstn, e_tupn, e_is, e_si, eo_cc, eo_int, eo_str, eo_bl, eo_nn, eo_nc, eo_cn, bothB_some, at0, at1, at2, DL.i_str, DL.s_str, DL.t_str, DL.in_str, DL.in_tup, DL.in_lst, DL.in_dS, DL.in_dI, DL.orB_some, DL.in_nil, DL.in_cons, DL.in_c1, o_kget, k_str1, Int.reduceDiv, Int.reduceMod, mulOk_l h, mul2, pos3]
theorem ld_times (h : a.natAbs < 2 ^ 64) : Ok ((cfN md.tb (n + 1)).call "_law_deed" [.str "times", .int a, .int b] g) Q E = Q (.int (a * b % 1000003)) (g ++ [.gone]) := by
  rw [call_def D__law_deed rfl]
  simp (decide := true) only [d__law_deed, o_v, o_non, o_bl, o_int, o_str, o_gl, o_tup, o_lstT, o_lstF, o_dct, o_bin, o_neg, o_not, o_and, o_or, o_and1, o_or1, o_and2, o_or2, o_cmp, o_cmp2, o_isn, o_notn, o_ite, o_ix, o_sl, o_fld, o_call, o_callv, o_bi, o_mt, o_isi, o_lc, o_nil, o_cons, o_pnil, o_pcons, o_part0, o_part1, o_T, o_ifs0, o_ifs1, o_tg, o_tgT, o_tgI, o_tgF, o_tgn, o_tgc, o_I, o_rng1, o_rng2, o_enum, o_zip, o_items, o_vals, o_ssn, o_ssc, th_nx, th_bk, th_ct, th_rt, th_rs, rt_rt, rt_nx, rt_rs, o_ex, o_ret, o_retn, o_asg, o_par, o_augv, o_iff, o_for, o_whl, o_brk, o_cnt, o_pas, o_frz, OO_some, OO_none, Ok_ok, sv0, svS, rdI, rdB, rdS, rdT, rdL, rdD, rdN, rdO, rdF, p_add, p_sub, p_mul, p_fdiv, p_mod, p_pow, p_addS, p_addT, p_addL, c_lt, c_le, c_gt, c_ge, c_eq, c_ne, c_in, c_nin, e_int, e_str, e_bl, t_bl, t_int, t_tup, t_lst, t_non, i_tup, i_lst, i_dS, i_dI, i_fn, s_tupl, s_lstl, n_tup, n_lst, n_dct, n_str, m_tup, m_lst, b_min, b_max, b_abs, b_all, b_any, b_sum, b_sort, isiAny, isiB, parSet, start0, Es.len, Tgs.len, List.map_cons, List.map_nil, List.length_cons, List.length_nil, List.cons_append, List.nil_append, List.replicate, List.set_cons_zero, List.set_cons_succ, Nat.reduceSub, Nat.reduceAdd, Nat.add_zero, Nat.zero_add, Nat.sub_self, Bool.not_true, Bool.not_false, if_true, if_false, Bool.true_and, Bool.and_true, Bool.false_and, Bool.and_false, Bool.not_not, Bool.false_eq_true, true_and, and_true, eq_self, rdR, rdAt, lenO, seqO, lstO, lsdO, dctO, atO, setO, frzO, b_len, b_tup, b_lstT, b_lstF, b_str, mo_app, mo_pop, mo_get, mo_join, a_app, a_pop, a_get, a_get2, a_join, z_set, f_frz, d_disp, d_dispT, q_last, q_set, k_str, k_int, l_nil, l_str, l_int, w_nil, w_str, w_int, dput, dmerge, dOf, intsOf, boolsOf, Option.map_some, Option.getD_some, Option.getD_none, Option.isSome_some, Option.isSome_none, fits_le, fits_lt, fits_s, body_for, ln_nx, ln_ct, ln_bk, ln_rt, ln_rs, Nat.reduceLeDiff, Nat.reduceLT, Nat.reduceMul, Int.reduceLT, Int.reduceLE, Int.reduceAdd, Int.reduceSub, Int.reduceMul, Int.reduceNeg, Int.reducePow, Int.reduceBEq, Int.reduceBNe, Int.reduceToNat, Nat.reduceEqDiff, Int.reduceEq, decide_true, decide_false, ite_true, ite_false, reduceIte, reduceCtorEq, body_lc, wipeE, e_lstn, e_tupn, e_is, e_si, eo_cc, eo_int, eo_str, eo_bl, eo_nn, eo_nc, eo_cn, bothB_some, at0, at1, at2, DL.i_str, DL.s_str, DL.t_str, DL.in_str, DL.in_tup, DL.in_lst, DL.in_dS, DL.in_dI, DL.orB_some, DL.in_nil, DL.in_cons, DL.in_c1, o_kget, k_str1, Int.reduceDiv, Int.reduceMod, mulOk_l h, mul2, pos3]
theorem ld_shift (h : a.natAbs < 2 ^ 64) : Ok ((cfN md.tb (n + 1)).call "_law_deed" [.str "shift", .int a, .int b] g) Q E = Q (.int ((2 * a + b) % 1000003)) (g ++ [.gone]) := by
  rw [call_def D__law_deed rfl]
  simp (decide := true) only [d__law_deed, o_v, o_non, o_bl, o_int, o_str, o_gl, o_tup, o_lstT, o_lstF, o_dct, o_bin, o_neg, o_not, o_and, o_or, o_and1, o_or1, o_and2, o_or2, o_cmp, o_cmp2, o_isn, o_notn, o_ite, o_ix, o_sl, o_fld, o_call, o_callv, o_bi, o_mt, o_isi, o_lc, o_nil, o_cons, o_pnil, o_pcons, o_part0, o_part1, o_T, o_ifs0, o_ifs1, o_tg, o_tgT, o_tgI, o_tgF, o_tgn, o_tgc, o_I, o_rng1, o_rng2, o_enum, o_zip, o_items, o_vals, o_ssn, o_ssc, th_nx, th_bk, th_ct, th_rt, th_rs, rt_rt, rt_nx, rt_rs, o_ex, o_ret, o_retn, o_asg, o_par, o_augv, o_iff, o_for, o_whl, o_brk, o_cnt, o_pas, o_frz, OO_some, OO_none, Ok_ok, sv0, svS, rdI, rdB, rdS, rdT, rdL, rdD, rdN, rdO, rdF, p_add, p_sub, p_mul, p_fdiv, p_mod, p_pow, p_addS, p_addT, p_addL, c_lt, c_le, c_gt, c_ge, c_eq, c_ne, c_in, c_nin, e_int, e_str, e_bl, t_bl, t_int, t_tup, t_lst, t_non, i_tup, i_lst, i_dS, i_dI, i_fn, s_tupl, s_lstl, n_tup, n_lst, n_dct, n_str, m_tup, m_lst, b_min, b_max, b_abs, b_all, b_any, b_sum, b_sort, isiAny, isiB, parSet, start0, Es.len, Tgs.len, List.map_cons, List.map_nil, List.length_cons, List.length_nil, List.cons_append, List.nil_append, List.replicate, List.set_cons_zero, List.set_cons_succ, Nat.reduceSub, Nat.reduceAdd, Nat.add_zero, Nat.zero_add, Nat.sub_self, Bool.not_true, Bool.not_false, if_true, if_false, Bool.true_and, Bool.and_true, Bool.false_and, Bool.and_false, Bool.not_not, Bool.false_eq_true, true_and, and_true, eq_self, rdR, rdAt, lenO, seqO, lstO, lsdO, dctO, atO, setO, frzO, b_len, b_tup, b_lstT, b_lstF, b_str, mo_app, mo_pop, mo_get, mo_join, a_app, a_pop, a_get, a_get2, a_join, z_set, f_frz, d_disp, d_dispT, q_last, q_set, k_str, k_int, l_nil, l_str, l_int, w_nil, w_str, w_int, dput, dmerge, dOf, intsOf, boolsOf, Option.map_some, Option.getD_some, Option.getD_none, Option.isSome_some, Option.isSome_none, fits_le, fits_lt, fits_s, body_for, ln_nx, ln_ct, ln_bk, ln_rt, ln_rs, Nat.reduceLeDiff, Nat.reduceLT, Nat.reduceMul, Int.reduceLT, Int.reduceLE, Int.reduceAdd, Int.reduceSub, Int.reduceMul, Int.reduceNeg, Int.reducePow, Int.reduceBEq, Int.reduceBNe, Int.reduceToNat, Nat.reduceEqDiff, Int.reduceEq, decide_true, decide_false, ite_true, ite_false, reduceIte, reduceCtorEq, body_lc, wipeE, e_lstn, e_tupn, e_is, e_si, eo_cc, eo_int, eo_str, eo_bl, eo_nn, eo_nc, eo_cn, bothB_some, at0, at1, at2, DL.i_str, DL.s_str, DL.t_str, DL.in_str, DL.in_tup, DL.in_lst, DL.in_dS, DL.in_dI, DL.orB_some, DL.in_nil, DL.in_cons, DL.in_c1, o_kget, k_str1, Int.reduceDiv, Int.reduceMod, mulOk_l h, mul2, pos3]
theorem ld_least : Ok ((cfN md.tb (n + 1)).call "_law_deed" [.str "least", .int a, .int b] g) Q E = Q (.int (if b < a then b else a)) g := by
  rw [call_def D__law_deed rfl]
  simp (decide := true) only [d__law_deed, o_v, o_non, o_bl, o_int, o_str, o_gl, o_tup, o_lstT, o_lstF, o_dct, o_bin, o_neg, o_not, o_and, o_or, o_and1, o_or1, o_and2, o_or2, o_cmp, o_cmp2, o_isn, o_notn, o_ite, o_ix, o_sl, o_fld, o_call, o_callv, o_bi, o_mt, o_isi, o_lc, o_nil, o_cons, o_pnil, o_pcons, o_part0, o_part1, o_T, o_ifs0, o_ifs1, o_tg, o_tgT, o_tgI, o_tgF, o_tgn, o_tgc, o_I, o_rng1, o_rng2, o_enum, o_zip, o_items, o_vals, o_ssn, o_ssc, th_nx, th_bk, th_ct, th_rt, th_rs, rt_rt, rt_nx, rt_rs, o_ex, o_ret, o_retn, o_asg, o_par, o_augv, o_iff, o_for, o_whl, o_brk, o_cnt, o_pas, o_frz, OO_some, OO_none, Ok_ok, sv0, svS, rdI, rdB, rdS, rdT, rdL, rdD, rdN, rdO, rdF, p_add, p_sub, p_mul, p_fdiv, p_mod, p_pow, p_addS, p_addT, p_addL, c_lt, c_le, c_gt, c_ge, c_eq, c_ne, c_in, c_nin, e_int, e_str, e_bl, t_bl, t_int, t_tup, t_lst, t_non, i_tup, i_lst, i_dS, i_dI, i_fn, s_tupl, s_lstl, n_tup, n_lst, n_dct, n_str, m_tup, m_lst, b_min, b_max, b_abs, b_all, b_any, b_sum, b_sort, isiAny, isiB, parSet, start0, Es.len, Tgs.len, List.map_cons, List.map_nil, List.length_cons, List.length_nil, List.cons_append, List.nil_append, List.replicate, List.set_cons_zero, List.set_cons_succ, Nat.reduceSub, Nat.reduceAdd, Nat.add_zero, Nat.zero_add, Nat.sub_self, Bool.not_true, Bool.not_false, if_true, if_false, Bool.true_and, Bool.and_true, Bool.false_and, Bool.and_false, Bool.not_not, Bool.false_eq_true, true_and, and_true, eq_self, rdR, rdAt, lenO, seqO, lstO, lsdO, dctO, atO, setO, frzO, b_len, b_tup, b_lstT, b_lstF, b_str, mo_app, mo_pop, mo_get, mo_join, a_app, a_pop, a_get, a_get2, a_join, z_set, f_frz, d_disp, d_dispT, q_last, q_set, k_str, k_int, l_nil, l_str, l_int, w_nil, w_str, w_int, dput, dmerge, dOf, intsOf, boolsOf, Option.map_some, Option.getD_some, Option.getD_none, Option.isSome_some, Option.isSome_none, fits_le, fits_lt, fits_s, body_for, ln_nx, ln_ct, ln_bk, ln_rt, ln_rs, Nat.reduceLeDiff, Nat.reduceLT, Nat.reduceMul, Int.reduceLT, Int.reduceLE, Int.reduceAdd, Int.reduceSub, Int.reduceMul, Int.reduceNeg, Int.reducePow, Int.reduceBEq, Int.reduceBNe, Int.reduceToNat, Nat.reduceEqDiff, Int.reduceEq, decide_true, decide_false, ite_true, ite_false, reduceIte, reduceCtorEq, body_lc, wipeE, e_lstn, e_tupn, e_is, e_si, eo_cc, eo_int, eo_str, eo_bl, eo_nn, eo_nc, eo_cn, bothB_some, at0, at1, at2, DL.i_str, DL.s_str, DL.t_str, DL.in_str, DL.in_tup, DL.in_lst, DL.in_dS, DL.in_dI, DL.orB_some, DL.in_nil, DL.in_cons, DL.in_c1, o_kget, k_str1, Int.reduceDiv, Int.reduceMod]
theorem ld_greatest : Ok ((cfN md.tb (n + 1)).call "_law_deed" [.str "greatest", .int a, .int b] g) Q E = Q (.int (if b > a then b else a)) g := by
  rw [call_def D__law_deed rfl]
  simp (decide := true) only [d__law_deed, o_v, o_non, o_bl, o_int, o_str, o_gl, o_tup, o_lstT, o_lstF, o_dct, o_bin, o_neg, o_not, o_and, o_or, o_and1, o_or1, o_and2, o_or2, o_cmp, o_cmp2, o_isn, o_notn, o_ite, o_ix, o_sl, o_fld, o_call, o_callv, o_bi, o_mt, o_isi, o_lc, o_nil, o_cons, o_pnil, o_pcons, o_part0, o_part1, o_T, o_ifs0, o_ifs1, o_tg, o_tgT, o_tgI, o_tgF, o_tgn, o_tgc, o_I, o_rng1, o_rng2, o_enum, o_zip, o_items, o_vals, o_ssn, o_ssc, th_nx, th_bk, th_ct, th_rt, th_rs, rt_rt, rt_nx, rt_rs, o_ex, o_ret, o_retn, o_asg, o_par, o_augv, o_iff, o_for, o_whl, o_brk, o_cnt, o_pas, o_frz, OO_some, OO_none, Ok_ok, sv0, svS, rdI, rdB, rdS, rdT, rdL, rdD, rdN, rdO, rdF, p_add, p_sub, p_mul, p_fdiv, p_mod, p_pow, p_addS, p_addT, p_addL, c_lt, c_le, c_gt, c_ge, c_eq, c_ne, c_in, c_nin, e_int, e_str, e_bl, t_bl, t_int, t_tup, t_lst, t_non, i_tup, i_lst, i_dS, i_dI, i_fn, s_tupl, s_lstl, n_tup, n_lst, n_dct, n_str, m_tup, m_lst, b_min, b_max, b_abs, b_all, b_any, b_sum, b_sort, isiAny, isiB, parSet, start0, Es.len, Tgs.len, List.map_cons, List.map_nil, List.length_cons, List.length_nil, List.cons_append, List.nil_append, List.replicate, List.set_cons_zero, List.set_cons_succ, Nat.reduceSub, Nat.reduceAdd, Nat.add_zero, Nat.zero_add, Nat.sub_self, Bool.not_true, Bool.not_false, if_true, if_false, Bool.true_and, Bool.and_true, Bool.false_and, Bool.and_false, Bool.not_not, Bool.false_eq_true, true_and, and_true, eq_self, rdR, rdAt, lenO, seqO, lstO, lsdO, dctO, atO, setO, frzO, b_len, b_tup, b_lstT, b_lstF, b_str, mo_app, mo_pop, mo_get, mo_join, a_app, a_pop, a_get, a_get2, a_join, z_set, f_frz, d_disp, d_dispT, q_last, q_set, k_str, k_int, l_nil, l_str, l_int, w_nil, w_str, w_int, dput, dmerge, dOf, intsOf, boolsOf, Option.map_some, Option.getD_some, Option.getD_none, Option.isSome_some, Option.isSome_none, fits_le, fits_lt, fits_s, body_for, ln_nx, ln_ct, ln_bk, ln_rt, ln_rs, Nat.reduceLeDiff, Nat.reduceLT, Nat.reduceMul, Int.reduceLT, Int.reduceLE, Int.reduceAdd, Int.reduceSub, Int.reduceMul, Int.reduceNeg, Int.reducePow, Int.reduceBEq, Int.reduceBNe, Int.reduceToNat, Nat.reduceEqDiff, Int.reduceEq, decide_true, decide_false, ite_true, ite_false, reduceIte, reduceCtorEq, body_lc, wipeE, e_lstn, e_tupn, e_is, e_si, eo_cc, eo_int, eo_str, eo_bl, eo_nn, eo_nc, eo_cn, bothB_some, at0, at1, at2, DL.i_str, DL.s_str, DL.t_str, DL.in_str, DL.in_tup, DL.in_lst, DL.in_dS, DL.in_dI, DL.orB_some, DL.in_nil, DL.in_cons, DL.in_c1, o_kget, k_str1, Int.reduceDiv, Int.reduceMod]
theorem ld_mean : Ok ((cfN md.tb (n + 1)).call "_law_deed" [.str "mean", .int a, .int b] g) Q E = Q (.int ((a + b) / 2)) g := by
  rw [call_def D__law_deed rfl]
  simp (decide := true) only [d__law_deed, o_v, o_non, o_bl, o_int, o_str, o_gl, o_tup, o_lstT, o_lstF, o_dct, o_bin, o_neg, o_not, o_and, o_or, o_and1, o_or1, o_and2, o_or2, o_cmp, o_cmp2, o_isn, o_notn, o_ite, o_ix, o_sl, o_fld, o_call, o_callv, o_bi, o_mt, o_isi, o_lc, o_nil, o_cons, o_pnil, o_pcons, o_part0, o_part1, o_T, o_ifs0, o_ifs1, o_tg, o_tgT, o_tgI, o_tgF, o_tgn, o_tgc, o_I, o_rng1, o_rng2, o_enum, o_zip, o_items, o_vals, o_ssn, o_ssc, th_nx, th_bk, th_ct, th_rt, th_rs, rt_rt, rt_nx, rt_rs, o_ex, o_ret, o_retn, o_asg, o_par, o_augv, o_iff, o_for, o_whl, o_brk, o_cnt, o_pas, o_frz, OO_some, OO_none, Ok_ok, sv0, svS, rdI, rdB, rdS, rdT, rdL, rdD, rdN, rdO, rdF, p_add, p_sub, p_mul, p_fdiv, p_mod, p_pow, p_addS, p_addT, p_addL, c_lt, c_le, c_gt, c_ge, c_eq, c_ne, c_in, c_nin, e_int, e_str, e_bl, t_bl, t_int, t_tup, t_lst, t_non, i_tup, i_lst, i_dS, i_dI, i_fn, s_tupl, s_lstl, n_tup, n_lst, n_dct, n_str, m_tup, m_lst, b_min, b_max, b_abs, b_all, b_any, b_sum, b_sort, isiAny, isiB, parSet, start0, Es.len, Tgs.len, List.map_cons, List.map_nil, List.length_cons, List.length_nil, List.cons_append, List.nil_append, List.replicate, List.set_cons_zero, List.set_cons_succ, Nat.reduceSub, Nat.reduceAdd, Nat.add_zero, Nat.zero_add, Nat.sub_self, Bool.not_true, Bool.not_false, if_true, if_false, Bool.true_and, Bool.and_true, Bool.false_and, Bool.and_false, Bool.not_not, Bool.false_eq_true, true_and, and_true, eq_self, rdR, rdAt, lenO, seqO, lstO, lsdO, dctO, atO, setO, frzO, b_len, b_tup, b_lstT, b_lstF, b_str, mo_app, mo_pop, mo_get, mo_join, a_app, a_pop, a_get, a_get2, a_join, z_set, f_frz, d_disp, d_dispT, q_last, q_set, k_str, k_int, l_nil, l_str, l_int, w_nil, w_str, w_int, dput, dmerge, dOf, intsOf, boolsOf, Option.map_some, Option.getD_some, Option.getD_none, Option.isSome_some, Option.isSome_none, fits_le, fits_lt, fits_s, body_for, ln_nx, ln_ct, ln_bk, ln_rt, ln_rs, Nat.reduceLeDiff, Nat.reduceLT, Nat.reduceMul, Int.reduceLT, Int.reduceLE, Int.reduceAdd, Int.reduceSub, Int.reduceMul, Int.reduceNeg, Int.reducePow, Int.reduceBEq, Int.reduceBNe, Int.reduceToNat, Nat.reduceEqDiff, Int.reduceEq, decide_true, decide_false, ite_true, ite_false, reduceIte, reduceCtorEq, body_lc, wipeE, e_lstn, e_tupn, e_is, e_si, eo_cc, eo_int, eo_str, eo_bl, eo_nn, eo_nc, eo_cn, bothB_some, at0, at1, at2, DL.i_str, DL.s_str, DL.t_str, DL.in_str, DL.in_tup, DL.in_lst, DL.in_dS, DL.in_dI, DL.orB_some, DL.in_nil, DL.in_cons, DL.in_c1, o_kget, k_str1, Int.reduceDiv, Int.reduceMod, div2]
theorem mod_abs {y : Int} : (y % 1000003).natAbs < 2 ^ 64 := by omega
theorem lb_plus (h : x.natAbs < 2 ^ 64) : Ok ((cfN md.tb (n + 2)).call "_law_both" [.str "plus", .lst [.int x, .int a, .int b]] g) Q E = Q (.tup [.int (((x + a) % 1000003 + b) % 1000003), .int (((x + b) % 1000003 + a) % 1000003)]) (g ++ [.gone] ++ [.gone] ++ [.gone] ++ [.gone]) := by
  rw [call_def D__law_both rfl]
  simp (decide := true) only [d__law_both, o_v, o_non, o_bl, o_int, o_str, o_gl, o_tup, o_lstT, o_lstF, o_dct, o_bin, o_neg, o_not, o_and, o_or, o_and1, o_or1, o_and2, o_or2, o_cmp, o_cmp2, o_isn, o_notn, o_ite, o_ix, o_sl, o_fld, o_call, o_callv, o_bi, o_mt, o_isi, o_lc, o_nil, o_cons, o_pnil, o_pcons, o_part0, o_part1, o_T, o_ifs0, o_ifs1, o_tg, o_tgT, o_tgI, o_tgF, o_tgn, o_tgc, o_I, o_rng1, o_rng2, o_enum, o_zip, o_items, o_vals, o_ssn, o_ssc, th_nx, th_bk, th_ct, th_rt, th_rs, rt_rt, rt_nx, rt_rs, o_ex, o_ret, o_retn, o_asg, o_par, o_augv, o_iff, o_for, o_whl, o_brk, o_cnt, o_pas, o_frz, OO_some, OO_none, Ok_ok, sv0, svS, rdI, rdB, rdS, rdT, rdL, rdD, rdN, rdO, rdF, p_add, p_sub, p_mul, p_fdiv, p_mod, p_pow, p_addS, p_addT, p_addL, c_lt, c_le, c_gt, c_ge, c_eq, c_ne, c_in, c_nin, e_int, e_str, e_bl, t_bl, t_int, t_tup, t_lst, t_non, i_tup, i_lst, i_dS, i_dI, i_fn, s_tupl, s_lstl, n_tup, n_lst, n_dct, n_str, m_tup, m_lst, b_min, b_max, b_abs, b_all, b_any, b_sum, b_sort, isiAny, isiB, parSet, start0, Es.len, Tgs.len, List.map_cons, List.map_nil, List.length_cons, List.length_nil, List.cons_append, List.nil_append, List.replicate, List.set_cons_zero, List.set_cons_succ, Nat.reduceSub, Nat.reduceAdd, Nat.add_zero, Nat.zero_add, Nat.sub_self, Bool.not_true, Bool.not_false, if_true, if_false, Bool.true_and, Bool.and_true, Bool.false_and, Bool.and_false, Bool.not_not, Bool.false_eq_true, true_and, and_true, eq_self, rdR, rdAt, lenO, seqO, lstO, lsdO, dctO, atO, setO, frzO, b_len, b_tup, b_lstT, b_lstF, b_str, mo_app, mo_pop, mo_get, mo_join, a_app, a_pop, a_get, a_get2, a_join, z_set, f_frz, d_disp, d_dispT, q_last, q_set, k_str, k_int, l_nil, l_str, l_int, w_nil, w_str, w_int, dput, dmerge, dOf, intsOf, boolsOf, Option.map_some, Option.getD_some, Option.getD_none, Option.isSome_some, Option.isSome_none, fits_le, fits_lt, fits_s, body_for, ln_nx, ln_ct, ln_bk, ln_rt, ln_rs, Nat.reduceLeDiff, Nat.reduceLT, Nat.reduceMul, Int.reduceLT, Int.reduceLE, Int.reduceAdd, Int.reduceSub, Int.reduceMul, Int.reduceNeg, Int.reducePow, Int.reduceBEq, Int.reduceBNe, Int.reduceToNat, Nat.reduceEqDiff, Int.reduceEq, decide_true, decide_false, ite_true, ite_false, reduceIte, reduceCtorEq, body_lc, wipeE, e_lstn, e_tupn, e_is, e_si, eo_cc, eo_int, eo_str, eo_bl, eo_nn, eo_nc, eo_cn, bothB_some, at0, at1, at2, DL.i_str, DL.s_str, DL.t_str, DL.in_str, DL.in_tup, DL.in_lst, DL.in_dS, DL.in_dI, DL.orB_some, DL.in_nil, DL.in_cons, DL.in_c1, o_kget, k_str1, Int.reduceDiv, Int.reduceMod, ld_plus h, ld_plus mod_abs]
theorem lb_less (h : x.natAbs < 2 ^ 64) : Ok ((cfN md.tb (n + 2)).call "_law_both" [.str "less", .lst [.int x, .int a, .int b]] g) Q E = Q (.tup [.int (((x - a) % 1000003 - b) % 1000003), .int (((x - b) % 1000003 - a) % 1000003)]) (g ++ [.gone] ++ [.gone] ++ [.gone] ++ [.gone]) := by
  rw [call_def D__law_both rfl]
  simp (decide := true) only [d__law_both, o_v, o_non, o_bl, o_int, o_str, o_gl, o_tup, o_lstT, o_lstF, o_dct, o_bin, o_neg, o_not, o_and, o_or, o_and1, o_or1, o_and2, o_or2, o_cmp, o_cmp2, o_isn, o_notn, o_ite, o_ix, o_sl, o_fld, o_call, o_callv, o_bi, o_mt, o_isi, o_lc, o_nil, o_cons, o_pnil, o_pcons, o_part0, o_part1, o_T, o_ifs0, o_ifs1, o_tg, o_tgT, o_tgI, o_tgF, o_tgn, o_tgc, o_I, o_rng1, o_rng2, o_enum, o_zip, o_items, o_vals, o_ssn, o_ssc, th_nx, th_bk, th_ct, th_rt, th_rs, rt_rt, rt_nx, rt_rs, o_ex, o_ret, o_retn, o_asg, o_par, o_augv, o_iff, o_for, o_whl, o_brk, o_cnt, o_pas, o_frz, OO_some, OO_none, Ok_ok, sv0, svS, rdI, rdB, rdS, rdT, rdL, rdD, rdN, rdO, rdF, p_add, p_sub, p_mul, p_fdiv, p_mod, p_pow, p_addS, p_addT, p_addL, c_lt, c_le, c_gt, c_ge, c_eq, c_ne, c_in, c_nin, e_int, e_str, e_bl, t_bl, t_int, t_tup, t_lst, t_non, i_tup, i_lst, i_dS, i_dI, i_fn, s_tupl, s_lstl, n_tup, n_lst, n_dct, n_str, m_tup, m_lst, b_min, b_max, b_abs, b_all, b_any, b_sum, b_sort, isiAny, isiB, parSet, start0, Es.len, Tgs.len, List.map_cons, List.map_nil, List.length_cons, List.length_nil, List.cons_append, List.nil_append, List.replicate, List.set_cons_zero, List.set_cons_succ, Nat.reduceSub, Nat.reduceAdd, Nat.add_zero, Nat.zero_add, Nat.sub_self, Bool.not_true, Bool.not_false, if_true, if_false, Bool.true_and, Bool.and_true, Bool.false_and, Bool.and_false, Bool.not_not, Bool.false_eq_true, true_and, and_true, eq_self, rdR, rdAt, lenO, seqO, lstO, lsdO, dctO, atO, setO, frzO, b_len, b_tup, b_lstT, b_lstF, b_str, mo_app, mo_pop, mo_get, mo_join, a_app, a_pop, a_get, a_get2, a_join, z_set, f_frz, d_disp, d_dispT, q_last, q_set, k_str, k_int, l_nil, l_str, l_int, w_nil, w_str, w_int, dput, dmerge, dOf, intsOf, boolsOf, Option.map_some, Option.getD_some, Option.getD_none, Option.isSome_some, Option.isSome_none, fits_le, fits_lt, fits_s, body_for, ln_nx, ln_ct, ln_bk, ln_rt, ln_rs, Nat.reduceLeDiff, Nat.reduceLT, Nat.reduceMul, Int.reduceLT, Int.reduceLE, Int.reduceAdd, Int.reduceSub, Int.reduceMul, Int.reduceNeg, Int.reducePow, Int.reduceBEq, Int.reduceBNe, Int.reduceToNat, Nat.reduceEqDiff, Int.reduceEq, decide_true, decide_false, ite_true, ite_false, reduceIte, reduceCtorEq, body_lc, wipeE, e_lstn, e_tupn, e_is, e_si, eo_cc, eo_int, eo_str, eo_bl, eo_nn, eo_nc, eo_cn, bothB_some, at0, at1, at2, DL.i_str, DL.s_str, DL.t_str, DL.in_str, DL.in_tup, DL.in_lst, DL.in_dS, DL.in_dI, DL.orB_some, DL.in_nil, DL.in_cons, DL.in_c1, o_kget, k_str1, Int.reduceDiv, Int.reduceMod, ld_less h, ld_less mod_abs]
theorem lb_times (h : x.natAbs < 2 ^ 64) : Ok ((cfN md.tb (n + 2)).call "_law_both" [.str "times", .lst [.int x, .int a, .int b]] g) Q E = Q (.tup [.int (x * a % 1000003 * b % 1000003), .int (x * b % 1000003 * a % 1000003)]) (g ++ [.gone] ++ [.gone] ++ [.gone] ++ [.gone]) := by
  rw [call_def D__law_both rfl]
  simp (decide := true) only [d__law_both, o_v, o_non, o_bl, o_int, o_str, o_gl, o_tup, o_lstT, o_lstF, o_dct, o_bin, o_neg, o_not, o_and, o_or, o_and1, o_or1, o_and2, o_or2, o_cmp, o_cmp2, o_isn, o_notn, o_ite, o_ix, o_sl, o_fld, o_call, o_callv, o_bi, o_mt, o_isi, o_lc, o_nil, o_cons, o_pnil, o_pcons, o_part0, o_part1, o_T, o_ifs0, o_ifs1, o_tg, o_tgT, o_tgI, o_tgF, o_tgn, o_tgc, o_I, o_rng1, o_rng2, o_enum, o_zip, o_items, o_vals, o_ssn, o_ssc, th_nx, th_bk, th_ct, th_rt, th_rs, rt_rt, rt_nx, rt_rs, o_ex, o_ret, o_retn, o_asg, o_par, o_augv, o_iff, o_for, o_whl, o_brk, o_cnt, o_pas, o_frz, OO_some, OO_none, Ok_ok, sv0, svS, rdI, rdB, rdS, rdT, rdL, rdD, rdN, rdO, rdF, p_add, p_sub, p_mul, p_fdiv, p_mod, p_pow, p_addS, p_addT, p_addL, c_lt, c_le, c_gt, c_ge, c_eq, c_ne, c_in, c_nin, e_int, e_str, e_bl, t_bl, t_int, t_tup, t_lst, t_non, i_tup, i_lst, i_dS, i_dI, i_fn, s_tupl, s_lstl, n_tup, n_lst, n_dct, n_str, m_tup, m_lst, b_min, b_max, b_abs, b_all, b_any, b_sum, b_sort, isiAny, isiB, parSet, start0, Es.len, Tgs.len, List.map_cons, List.map_nil, List.length_cons, List.length_nil, List.cons_append, List.nil_append, List.replicate, List.set_cons_zero, List.set_cons_succ, Nat.reduceSub, Nat.reduceAdd, Nat.add_zero, Nat.zero_add, Nat.sub_self, Bool.not_true, Bool.not_false, if_true, if_false, Bool.true_and, Bool.and_true, Bool.false_and, Bool.and_false, Bool.not_not, Bool.false_eq_true, true_and, and_true, eq_self, rdR, rdAt, lenO, seqO, lstO, lsdO, dctO, atO, setO, frzO, b_len, b_tup, b_lstT, b_lstF, b_str, mo_app, mo_pop, mo_get, mo_join, a_app, a_pop, a_get, a_get2, a_join, z_set, f_frz, d_disp, d_dispT, q_last, q_set, k_str, k_int, l_nil, l_str, l_int, w_nil, w_str, w_int, dput, dmerge, dOf, intsOf, boolsOf, Option.map_some, Option.getD_some, Option.getD_none, Option.isSome_some, Option.isSome_none, fits_le, fits_lt, fits_s, body_for, ln_nx, ln_ct, ln_bk, ln_rt, ln_rs, Nat.reduceLeDiff, Nat.reduceLT, Nat.reduceMul, Int.reduceLT, Int.reduceLE, Int.reduceAdd, Int.reduceSub, Int.reduceMul, Int.reduceNeg, Int.reducePow, Int.reduceBEq, Int.reduceBNe, Int.reduceToNat, Nat.reduceEqDiff, Int.reduceEq, decide_true, decide_false, ite_true, ite_false, reduceIte, reduceCtorEq, body_lc, wipeE, e_lstn, e_tupn, e_is, e_si, eo_cc, eo_int, eo_str, eo_bl, eo_nn, eo_nc, eo_cn, bothB_some, at0, at1, at2, DL.i_str, DL.s_str, DL.t_str, DL.in_str, DL.in_tup, DL.in_lst, DL.in_dS, DL.in_dI, DL.orB_some, DL.in_nil, DL.in_cons, DL.in_c1, o_kget, k_str1, Int.reduceDiv, Int.reduceMod, ld_times h, ld_times mod_abs]
theorem lb_least : Ok ((cfN md.tb (n + 2)).call "_law_both" [.str "least", .lst [.int x, .int a, .int b]] g) Q E = Q (.tup [.int (if b < (if a < x then a else x) then b else (if a < x then a else x)), .int (if a < (if b < x then b else x) then a else (if b < x then b else x))]) g := by
  rw [call_def D__law_both rfl]
  simp (decide := true) only [d__law_both, o_v, o_non, o_bl, o_int, o_str, o_gl, o_tup, o_lstT, o_lstF, o_dct, o_bin, o_neg, o_not, o_and, o_or, o_and1, o_or1, o_and2, o_or2, o_cmp, o_cmp2, o_isn, o_notn, o_ite, o_ix, o_sl, o_fld, o_call, o_callv, o_bi, o_mt, o_isi, o_lc, o_nil, o_cons, o_pnil, o_pcons, o_part0, o_part1, o_T, o_ifs0, o_ifs1, o_tg, o_tgT, o_tgI, o_tgF, o_tgn, o_tgc, o_I, o_rng1, o_rng2, o_enum, o_zip, o_items, o_vals, o_ssn, o_ssc, th_nx, th_bk, th_ct, th_rt, th_rs, rt_rt, rt_nx, rt_rs, o_ex, o_ret, o_retn, o_asg, o_par, o_augv, o_iff, o_for, o_whl, o_brk, o_cnt, o_pas, o_frz, OO_some, OO_none, Ok_ok, sv0, svS, rdI, rdB, rdS, rdT, rdL, rdD, rdN, rdO, rdF, p_add, p_sub, p_mul, p_fdiv, p_mod, p_pow, p_addS, p_addT, p_addL, c_lt, c_le, c_gt, c_ge, c_eq, c_ne, c_in, c_nin, e_int, e_str, e_bl, t_bl, t_int, t_tup, t_lst, t_non, i_tup, i_lst, i_dS, i_dI, i_fn, s_tupl, s_lstl, n_tup, n_lst, n_dct, n_str, m_tup, m_lst, b_min, b_max, b_abs, b_all, b_any, b_sum, b_sort, isiAny, isiB, parSet, start0, Es.len, Tgs.len, List.map_cons, List.map_nil, List.length_cons, List.length_nil, List.cons_append, List.nil_append, List.replicate, List.set_cons_zero, List.set_cons_succ, Nat.reduceSub, Nat.reduceAdd, Nat.add_zero, Nat.zero_add, Nat.sub_self, Bool.not_true, Bool.not_false, if_true, if_false, Bool.true_and, Bool.and_true, Bool.false_and, Bool.and_false, Bool.not_not, Bool.false_eq_true, true_and, and_true, eq_self, rdR, rdAt, lenO, seqO, lstO, lsdO, dctO, atO, setO, frzO, b_len, b_tup, b_lstT, b_lstF, b_str, mo_app, mo_pop, mo_get, mo_join, a_app, a_pop, a_get, a_get2, a_join, z_set, f_frz, d_disp, d_dispT, q_last, q_set, k_str, k_int, l_nil, l_str, l_int, w_nil, w_str, w_int, dput, dmerge, dOf, intsOf, boolsOf, Option.map_some, Option.getD_some, Option.getD_none, Option.isSome_some, Option.isSome_none, fits_le, fits_lt, fits_s, body_for, ln_nx, ln_ct, ln_bk, ln_rt, ln_rs, Nat.reduceLeDiff, Nat.reduceLT, Nat.reduceMul, Int.reduceLT, Int.reduceLE, Int.reduceAdd, Int.reduceSub, Int.reduceMul, Int.reduceNeg, Int.reducePow, Int.reduceBEq, Int.reduceBNe, Int.reduceToNat, Nat.reduceEqDiff, Int.reduceEq, decide_true, decide_false, ite_true, ite_false, reduceIte, reduceCtorEq, body_lc, wipeE, e_lstn, e_tupn, e_is, e_si, eo_cc, eo_int, eo_str, eo_bl, eo_nn, eo_nc, eo_cn, bothB_some, at0, at1, at2, DL.i_str, DL.s_str, DL.t_str, DL.in_str, DL.in_tup, DL.in_lst, DL.in_dS, DL.in_dI, DL.orB_some, DL.in_nil, DL.in_cons, DL.in_c1, o_kget, k_str1, Int.reduceDiv, Int.reduceMod, ld_least]
theorem lb_greatest : Ok ((cfN md.tb (n + 2)).call "_law_both" [.str "greatest", .lst [.int x, .int a, .int b]] g) Q E = Q (.tup [.int (if b > (if a > x then a else x) then b else (if a > x then a else x)), .int (if a > (if b > x then b else x) then a else (if b > x then b else x))]) g := by
  rw [call_def D__law_both rfl]
  simp (decide := true) only [d__law_both, o_v, o_non, o_bl, o_int, o_str, o_gl, o_tup, o_lstT, o_lstF, o_dct, o_bin, o_neg, o_not, o_and, o_or, o_and1, o_or1, o_and2, o_or2, o_cmp, o_cmp2, o_isn, o_notn, o_ite, o_ix, o_sl, o_fld, o_call, o_callv, o_bi, o_mt, o_isi, o_lc, o_nil, o_cons, o_pnil, o_pcons, o_part0, o_part1, o_T, o_ifs0, o_ifs1, o_tg, o_tgT, o_tgI, o_tgF, o_tgn, o_tgc, o_I, o_rng1, o_rng2, o_enum, o_zip, o_items, o_vals, o_ssn, o_ssc, th_nx, th_bk, th_ct, th_rt, th_rs, rt_rt, rt_nx, rt_rs, o_ex, o_ret, o_retn, o_asg, o_par, o_augv, o_iff, o_for, o_whl, o_brk, o_cnt, o_pas, o_frz, OO_some, OO_none, Ok_ok, sv0, svS, rdI, rdB, rdS, rdT, rdL, rdD, rdN, rdO, rdF, p_add, p_sub, p_mul, p_fdiv, p_mod, p_pow, p_addS, p_addT, p_addL, c_lt, c_le, c_gt, c_ge, c_eq, c_ne, c_in, c_nin, e_int, e_str, e_bl, t_bl, t_int, t_tup, t_lst, t_non, i_tup, i_lst, i_dS, i_dI, i_fn, s_tupl, s_lstl, n_tup, n_lst, n_dct, n_str, m_tup, m_lst, b_min, b_max, b_abs, b_all, b_any, b_sum, b_sort, isiAny, isiB, parSet, start0, Es.len, Tgs.len, List.map_cons, List.map_nil, List.length_cons, List.length_nil, List.cons_append, List.nil_append, List.replicate, List.set_cons_zero, List.set_cons_succ, Nat.reduceSub, Nat.reduceAdd, Nat.add_zero, Nat.zero_add, Nat.sub_self, Bool.not_true, Bool.not_false, if_true, if_false, Bool.true_and, Bool.and_true, Bool.false_and, Bool.and_false, Bool.not_not, Bool.false_eq_true, true_and, and_true, eq_self, rdR, rdAt, lenO, seqO, lstO, lsdO, dctO, atO, setO, frzO, b_len, b_tup, b_lstT, b_lstF, b_str, mo_app, mo_pop, mo_get, mo_join, a_app, a_pop, a_get, a_get2, a_join, z_set, f_frz, d_disp, d_dispT, q_last, q_set, k_str, k_int, l_nil, l_str, l_int, w_nil, w_str, w_int, dput, dmerge, dOf, intsOf, boolsOf, Option.map_some, Option.getD_some, Option.getD_none, Option.isSome_some, Option.isSome_none, fits_le, fits_lt, fits_s, body_for, ln_nx, ln_ct, ln_bk, ln_rt, ln_rs, Nat.reduceLeDiff, Nat.reduceLT, Nat.reduceMul, Int.reduceLT, Int.reduceLE, Int.reduceAdd, Int.reduceSub, Int.reduceMul, Int.reduceNeg, Int.reducePow, Int.reduceBEq, Int.reduceBNe, Int.reduceToNat, Nat.reduceEqDiff, Int.reduceEq, decide_true, decide_false, ite_true, ite_false, reduceIte, reduceCtorEq, body_lc, wipeE, e_lstn, e_tupn, e_is, e_si, eo_cc, eo_int, eo_str, eo_bl, eo_nn, eo_nc, eo_cn, bothB_some, at0, at1, at2, DL.i_str, DL.s_str, DL.t_str, DL.in_str, DL.in_tup, DL.in_lst, DL.in_dS, DL.in_dI, DL.orB_some, DL.in_nil, DL.in_cons, DL.in_c1, o_kget, k_str1, Int.reduceDiv, Int.reduceMod, ld_greatest]
theorem pt_no {w : Str} (h : List.lookup w ([("mean", (.tup [(.int 0), (.int 4), (.int 0)])), ("shift", (.tup [(.int 0), (.int 1), (.int 0)]))] : List (Str × D)) = none) : Ok ((cfN md.tb (n + 1)).call "parting" [.str w] g) Q E = Q .non g := by
  rw [call_def D_parting rfl]
  simp only [d_parting, o_v, o_non, o_bl, o_int, o_str, o_gl, o_tup, o_lstT, o_lstF, o_dct, o_bin, o_neg, o_not, o_and, o_or, o_and1, o_or1, o_and2, o_or2, o_cmp, o_cmp2, o_isn, o_notn, o_ite, o_ix, o_sl, o_fld, o_call, o_callv, o_bi, o_mt, o_isi, o_lc, o_nil, o_cons, o_pnil, o_pcons, o_part0, o_part1, o_T, o_ifs0, o_ifs1, o_tg, o_tgT, o_tgI, o_tgF, o_tgn, o_tgc, o_I, o_rng1, o_rng2, o_enum, o_zip, o_items, o_vals, o_ssn, o_ssc, th_nx, th_bk, th_ct, th_rt, th_rs, rt_rt, rt_nx, rt_rs, o_ex, o_ret, o_retn, o_asg, o_par, o_augv, o_iff, o_for, o_whl, o_brk, o_cnt, o_pas, o_frz, OO_some, OO_none, Ok_ok, sv0, svS, rdI, rdB, rdS, rdT, rdL, rdD, rdN, rdO, rdF, p_add, p_sub, p_mul, p_fdiv, p_mod, p_pow, p_addS, p_addT, p_addL, c_lt, c_le, c_gt, c_ge, c_eq, c_ne, c_in, c_nin, e_int, e_str, e_bl, t_bl, t_int, t_tup, t_lst, t_non, i_tup, i_lst, i_dS, i_dI, i_fn, s_tupl, s_lstl, n_tup, n_lst, n_dct, n_str, m_tup, m_lst, b_min, b_max, b_abs, b_all, b_any, b_sum, b_sort, isiAny, isiB, parSet, start0, Es.len, Tgs.len, List.map_cons, List.map_nil, List.length_cons, List.length_nil, List.cons_append, List.nil_append, List.replicate, List.set_cons_zero, List.set_cons_succ, Nat.reduceSub, Nat.reduceAdd, Nat.add_zero, Nat.zero_add, Nat.sub_self, Bool.not_true, Bool.not_false, if_true, if_false, Bool.true_and, Bool.and_true, Bool.false_and, Bool.and_false, Bool.not_not, Bool.false_eq_true, true_and, and_true, eq_self, rdR, rdAt, lenO, seqO, lstO, lsdO, dctO, atO, setO, frzO, b_len, b_tup, b_lstT, b_lstF, b_str, mo_app, mo_pop, mo_get, mo_join, a_app, a_pop, a_get, a_get2, a_join, z_set, f_frz, d_disp, d_dispT, q_last, q_set, k_str, k_int, l_nil, l_str, l_int, w_nil, w_str, w_int, dput, dmerge, dOf, intsOf, boolsOf, Option.map_some, Option.getD_some, Option.getD_none, Option.isSome_some, Option.isSome_none, fits_le, fits_lt, fits_s, body_for, ln_nx, ln_ct, ln_bk, ln_rt, ln_rs, Nat.reduceLeDiff, Nat.reduceLT, Nat.reduceMul, Int.reduceLT, Int.reduceLE, Int.reduceAdd, Int.reduceSub, Int.reduceMul, Int.reduceNeg, Int.reducePow, Int.reduceBEq, Int.reduceBNe, Int.reduceToNat, Nat.reduceEqDiff, Int.reduceEq, decide_true, decide_false, ite_true, ite_false, reduceIte, reduceCtorEq, body_lc, wipeE, e_lstn, e_tupn, e_is, e_si, eo_cc, eo_int, eo_str, eo_bl, eo_nn, eo_nc, eo_cn, bothB_some, at0, at1, at2, DL.i_str, DL.s_str, DL.t_str, DL.in_str, DL.in_tup, DL.in_lst, DL.in_dS, DL.in_dI, DL.orB_some, DL.in_nil, DL.in_cons, DL.in_c1, o_kget, k_str1, Int.reduceDiv, Int.reduceMod, G_PARTINGS, T_PARTINGS, h]
theorem pt_yes {w : Str} {d : D} (h : List.lookup w ([("mean", (.tup [(.int 0), (.int 4), (.int 0)])), ("shift", (.tup [(.int 0), (.int 1), (.int 0)]))] : List (Str × D)) = some d) : Ok ((cfN md.tb (n + 1)).call "parting" [.str w] g) Q E = Q d g := by
  rw [call_def D_parting rfl]
  simp only [d_parting, o_v, o_non, o_bl, o_int, o_str, o_gl, o_tup, o_lstT, o_lstF, o_dct, o_bin, o_neg, o_not, o_and, o_or, o_and1, o_or1, o_and2, o_or2, o_cmp, o_cmp2, o_isn, o_notn, o_ite, o_ix, o_sl, o_fld, o_call, o_callv, o_bi, o_mt, o_isi, o_lc, o_nil, o_cons, o_pnil, o_pcons, o_part0, o_part1, o_T, o_ifs0, o_ifs1, o_tg, o_tgT, o_tgI, o_tgF, o_tgn, o_tgc, o_I, o_rng1, o_rng2, o_enum, o_zip, o_items, o_vals, o_ssn, o_ssc, th_nx, th_bk, th_ct, th_rt, th_rs, rt_rt, rt_nx, rt_rs, o_ex, o_ret, o_retn, o_asg, o_par, o_augv, o_iff, o_for, o_whl, o_brk, o_cnt, o_pas, o_frz, OO_some, OO_none, Ok_ok, sv0, svS, rdI, rdB, rdS, rdT, rdL, rdD, rdN, rdO, rdF, p_add, p_sub, p_mul, p_fdiv, p_mod, p_pow, p_addS, p_addT, p_addL, c_lt, c_le, c_gt, c_ge, c_eq, c_ne, c_in, c_nin, e_int, e_str, e_bl, t_bl, t_int, t_tup, t_lst, t_non, i_tup, i_lst, i_dS, i_dI, i_fn, s_tupl, s_lstl, n_tup, n_lst, n_dct, n_str, m_tup, m_lst, b_min, b_max, b_abs, b_all, b_any, b_sum, b_sort, isiAny, isiB, parSet, start0, Es.len, Tgs.len, List.map_cons, List.map_nil, List.length_cons, List.length_nil, List.cons_append, List.nil_append, List.replicate, List.set_cons_zero, List.set_cons_succ, Nat.reduceSub, Nat.reduceAdd, Nat.add_zero, Nat.zero_add, Nat.sub_self, Bool.not_true, Bool.not_false, if_true, if_false, Bool.true_and, Bool.and_true, Bool.false_and, Bool.and_false, Bool.not_not, Bool.false_eq_true, true_and, and_true, eq_self, rdR, rdAt, lenO, seqO, lstO, lsdO, dctO, atO, setO, frzO, b_len, b_tup, b_lstT, b_lstF, b_str, mo_app, mo_pop, mo_get, mo_join, a_app, a_pop, a_get, a_get2, a_join, z_set, f_frz, d_disp, d_dispT, q_last, q_set, k_str, k_int, l_nil, l_str, l_int, w_nil, w_str, w_int, dput, dmerge, dOf, intsOf, boolsOf, Option.map_some, Option.getD_some, Option.getD_none, Option.isSome_some, Option.isSome_none, fits_le, fits_lt, fits_s, body_for, ln_nx, ln_ct, ln_bk, ln_rt, ln_rs, Nat.reduceLeDiff, Nat.reduceLT, Nat.reduceMul, Int.reduceLT, Int.reduceLE, Int.reduceAdd, Int.reduceSub, Int.reduceMul, Int.reduceNeg, Int.reducePow, Int.reduceBEq, Int.reduceBNe, Int.reduceToNat, Nat.reduceEqDiff, Int.reduceEq, decide_true, decide_false, ite_true, ite_false, reduceIte, reduceCtorEq, body_lc, wipeE, e_lstn, e_tupn, e_is, e_si, eo_cc, eo_int, eo_str, eo_bl, eo_nn, eo_nc, eo_cn, bothB_some, at0, at1, at2, DL.i_str, DL.s_str, DL.t_str, DL.in_str, DL.in_tup, DL.in_lst, DL.in_dS, DL.in_dI, DL.orB_some, DL.in_nil, DL.in_cons, DL.in_c1, o_kget, k_str1, Int.reduceDiv, Int.reduceMod, G_PARTINGS, T_PARTINGS, h]
theorem sp_whole (h : 0 ≤ a) (h2 : a < 1000003) : Ok ((cfN md.tb (n + 1)).call "_law_whole" [.int a] g) Q E = Q (.bl true) g := by
  rw [call_def D__law_whole rfl]
  simp only [d__law_whole, o_v, o_non, o_bl, o_int, o_str, o_gl, o_tup, o_lstT, o_lstF, o_dct, o_bin, o_neg, o_not, o_and, o_or, o_and1, o_or1, o_and2, o_or2, o_cmp, o_cmp2, o_isn, o_notn, o_ite, o_ix, o_sl, o_fld, o_call, o_callv, o_bi, o_mt, o_isi, o_lc, o_nil, o_cons, o_pnil, o_pcons, o_part0, o_part1, o_T, o_ifs0, o_ifs1, o_tg, o_tgT, o_tgI, o_tgF, o_tgn, o_tgc, o_I, o_rng1, o_rng2, o_enum, o_zip, o_items, o_vals, o_ssn, o_ssc, th_nx, th_bk, th_ct, th_rt, th_rs, rt_rt, rt_nx, rt_rs, o_ex, o_ret, o_retn, o_asg, o_par, o_augv, o_iff, o_for, o_whl, o_brk, o_cnt, o_pas, o_frz, OO_some, OO_none, Ok_ok, sv0, svS, rdI, rdB, rdS, rdT, rdL, rdD, rdN, rdO, rdF, p_add, p_sub, p_mul, p_fdiv, p_mod, p_pow, p_addS, p_addT, p_addL, c_lt, c_le, c_gt, c_ge, c_eq, c_ne, c_in, c_nin, e_int, e_str, e_bl, t_bl, t_int, t_tup, t_lst, t_non, i_tup, i_lst, i_dS, i_dI, i_fn, s_tupl, s_lstl, n_tup, n_lst, n_dct, n_str, m_tup, m_lst, b_min, b_max, b_abs, b_all, b_any, b_sum, b_sort, isiAny, isiB, parSet, start0, Es.len, Tgs.len, List.map_cons, List.map_nil, List.length_cons, List.length_nil, List.cons_append, List.nil_append, List.replicate, List.set_cons_zero, List.set_cons_succ, Nat.reduceSub, Nat.reduceAdd, Nat.add_zero, Nat.zero_add, Nat.sub_self, Bool.not_true, Bool.not_false, if_true, if_false, Bool.true_and, Bool.and_true, Bool.false_and, Bool.and_false, Bool.not_not, Bool.false_eq_true, true_and, and_true, eq_self, rdR, rdAt, lenO, seqO, lstO, lsdO, dctO, atO, setO, frzO, b_len, b_tup, b_lstT, b_lstF, b_str, mo_app, mo_pop, mo_get, mo_join, a_app, a_pop, a_get, a_get2, a_join, z_set, f_frz, d_disp, d_dispT, q_last, q_set, k_str, k_int, l_nil, l_str, l_int, w_nil, w_str, w_int, dput, dmerge, dOf, intsOf, boolsOf, Option.map_some, Option.getD_some, Option.getD_none, Option.isSome_some, Option.isSome_none, fits_le, fits_lt, fits_s, body_for, ln_nx, ln_ct, ln_bk, ln_rt, ln_rs, Nat.reduceLeDiff, Nat.reduceLT, Nat.reduceMul, Int.reduceLT, Int.reduceLE, Int.reduceAdd, Int.reduceSub, Int.reduceMul, Int.reduceNeg, Int.reducePow, Int.reduceBEq, Int.reduceBNe, Int.reduceToNat, Nat.reduceEqDiff, Int.reduceEq, decide_true, decide_false, ite_true, ite_false, reduceIte, reduceCtorEq, body_lc, wipeE, e_lstn, e_tupn, e_is, e_si, eo_cc, eo_int, eo_str, eo_bl, eo_nn, eo_nc, eo_cn, bothB_some, at0, at1, at2, DL.i_str, DL.s_str, DL.t_str, DL.in_str, DL.in_tup, DL.in_lst, DL.in_dS, DL.in_dI, DL.orB_some, DL.in_nil, DL.in_cons, DL.in_c1, o_kget, k_str1, Int.reduceDiv, Int.reduceMod, h, h2]
theorem part_gen {w : Str} {c : Int} {d1 d2 : Int} (h0 : 0 ≤ c) (h1 : c < 1000003) (h : List.lookup w ([("mean", (.tup [(.int 0), (.int 4), (.int 0)])), ("shift", (.tup [(.int 0), (.int 1), (.int 0)]))] : List (Str × D)) = some (.tup [.int 0, .int c, .int 0])) (hne : (d1 == d2) = false)
    (hb : ∀ g (Q : D → G → Prop), (∀ g', Q (.tup [.int d1, .int d2]) g') → Ok ((cfN md.tb (n + 2)).call "_law_both" [.str w, .tup [.int 0, .int c, .int 0]] g) Q Never) (hq : ∀ g', Q (.bl true) g') : Ok ((cfN md.tb (n + 3)).call "_law_part_right" [.str w] g) Q E := by
  rw [call_def D__law_part_right rfl]
  simp (decide := true) only [d__law_part_right, o_v, o_non, o_bl, o_int, o_str, o_gl, o_tup, o_lstT, o_lstF, o_dct, o_bin, o_neg, o_not, o_and, o_or, o_and1, o_or1, o_and2, o_or2, o_cmp, o_cmp2, o_isn, o_notn, o_ite, o_ix, o_sl, o_fld, o_call, o_callv, o_bi, o_mt, o_isi, o_lc, o_nil, o_cons, o_pnil, o_pcons, o_part0, o_part1, o_T, o_ifs0, o_ifs1, o_tg, o_tgT, o_tgI, o_tgF, o_tgn, o_tgc, o_I, o_rng1, o_rng2, o_enum, o_zip, o_items, o_vals, o_ssn, o_ssc, th_nx, th_bk, th_ct, th_rt, th_rs, rt_rt, rt_nx, rt_rs, o_ex, o_ret, o_retn, o_asg, o_par, o_augv, o_iff, o_for, o_whl, o_brk, o_cnt, o_pas, o_frz, OO_some, OO_none, Ok_ok, sv0, svS, rdI, rdB, rdS, rdT, rdL, rdD, rdN, rdO, rdF, p_add, p_sub, p_mul, p_fdiv, p_mod, p_pow, p_addS, p_addT, p_addL, c_lt, c_le, c_gt, c_ge, c_eq, c_ne, c_in, c_nin, e_int, e_str, e_bl, t_bl, t_int, t_tup, t_lst, t_non, i_tup, i_lst, i_dS, i_dI, i_fn, s_tupl, s_lstl, n_tup, n_lst, n_dct, n_str, m_tup, m_lst, b_min, b_max, b_abs, b_all, b_any, b_sum, b_sort, isiAny, isiB, parSet, start0, Es.len, Tgs.len, List.map_cons, List.map_nil, List.length_cons, List.length_nil, List.cons_append, List.nil_append, List.replicate, List.set_cons_zero, List.set_cons_succ, Nat.reduceSub, Nat.reduceAdd, Nat.add_zero, Nat.zero_add, Nat.sub_self, Bool.not_true, Bool.not_false, if_true, if_false, Bool.true_and, Bool.and_true, Bool.false_and, Bool.and_false, Bool.not_not, Bool.false_eq_true, true_and, and_true, eq_self, rdR, rdAt, lenO, seqO, lstO, lsdO, dctO, atO, setO, frzO, b_len, b_tup, b_lstT, b_lstF, b_str, mo_app, mo_pop, mo_get, mo_join, a_app, a_pop, a_get, a_get2, a_join, z_set, f_frz, d_disp, d_dispT, q_last, q_set, k_str, k_int, l_nil, l_str, l_int, w_nil, w_str, w_int, dput, dmerge, dOf, intsOf, boolsOf, Option.map_some, Option.getD_some, Option.getD_none, Option.isSome_some, Option.isSome_none, fits_le, fits_lt, fits_s, body_for, ln_nx, ln_ct, ln_bk, ln_rt, ln_rs, Nat.reduceLeDiff, Nat.reduceLT, Nat.reduceMul, Int.reduceLT, Int.reduceLE, Int.reduceAdd, Int.reduceSub, Int.reduceMul, Int.reduceNeg, Int.reducePow, Int.reduceBEq, Int.reduceBNe, Int.reduceToNat, Nat.reduceEqDiff, Int.reduceEq, decide_true, decide_false, ite_true, ite_false, reduceIte, reduceCtorEq, body_lc, wipeE, e_lstn, e_tupn, e_is, e_si, eo_cc, eo_int, eo_str, eo_bl, eo_nn, eo_nc, eo_cn, bothB_some, at0, at1, at2, DL.i_str, DL.s_str, DL.t_str, DL.in_str, DL.in_tup, DL.in_lst, DL.in_dS, DL.in_dI, DL.orB_some, DL.in_nil, DL.in_cons, DL.in_c1, o_kget, k_str1, Int.reduceDiv, Int.reduceMod, pt_yes h]
  refine lc_pure (fun _ => some (.bl true)) (fits (by simp)) ?_ ?_
  · intro d xs Q hd hQ
    simp only [List.mem_cons, List.not_mem_nil, or_false] at hd
    rcases hd with rfl | rfl | rfl <;> (simp (decide := true) only [o_v, o_non, o_bl, o_int, o_str, o_gl, o_tup, o_lstT, o_lstF, o_dct, o_bin, o_neg, o_not, o_and, o_or, o_and1, o_or1, o_and2, o_or2, o_cmp, o_cmp2, o_isn, o_notn, o_ite, o_ix, o_sl, o_fld, o_call, o_callv, o_bi, o_mt, o_isi, o_lc, o_nil, o_cons, o_pnil, o_pcons, o_part0, o_part1, o_T, o_ifs0, o_ifs1, o_tg, o_tgT, o_tgI, o_tgF, o_tgn, o_tgc, o_I, o_rng1, o_rng2, o_enum, o_zip, o_items, o_vals, o_ssn, o_ssc, th_nx, th_bk, th_ct, th_rt, th_rs, rt_rt, rt_nx, rt_rs, o_ex, o_ret, o_retn, o_asg, o_par, o_augv, o_iff, o_for, o_whl, o_brk, o_cnt, o_pas, o_frz, OO_some, OO_none, Ok_ok, sv0, svS, rdI, rdB, rdS, rdT, rdL, rdD, rdN, rdO, rdF, p_add, p_sub, p_mul, p_fdiv, p_mod, p_pow, p_addS, p_addT, p_addL, c_lt, c_le, c_gt, c_ge, c_eq, c_ne, c_in, c_nin, e_int, e_str, e_bl, t_bl, t_int, t_tup, t_lst, t_non, i_tup, i_lst, i_dS, i_dI, i_fn, s_tupl, s_lstl, n_tup, n_lst, n_dct, n_str, m_tup, m_lst, b_min, b_max, b_abs, b_all, b_any, b_sum, b_sort, isiAny, isiB, parSet, start0, Es.len, Tgs.len, List.map_cons, List.map_nil, List.length_cons, List.length_nil, List.cons_append, List.nil_append, List.replicate, List.set_cons_zero, List.set_cons_succ, Nat.reduceSub, Nat.reduceAdd, Nat.add_zero, Nat.zero_add, Nat.sub_self, Bool.not_true, Bool.not_false, if_true, if_false, Bool.true_and, Bool.and_true, Bool.false_and, Bool.and_false, Bool.not_not, Bool.false_eq_true, true_and, and_true, eq_self, rdR, rdAt, lenO, seqO, lstO, lsdO, dctO, atO, setO, frzO, b_len, b_tup, b_lstT, b_lstF, b_str, mo_app, mo_pop, mo_get, mo_join, a_app, a_pop, a_get, a_get2, a_join, z_set, f_frz, d_disp, d_dispT, q_last, q_set, k_str, k_int, l_nil, l_str, l_int, w_nil, w_str, w_int, dput, dmerge, dOf, intsOf, boolsOf, Option.map_some, Option.getD_some, Option.getD_none, Option.isSome_some, Option.isSome_none, fits_le, fits_lt, fits_s, body_for, ln_nx, ln_ct, ln_bk, ln_rt, ln_rs, Nat.reduceLeDiff, Nat.reduceLT, Nat.reduceMul, Int.reduceLT, Int.reduceLE, Int.reduceAdd, Int.reduceSub, Int.reduceMul, Int.reduceNeg, Int.reducePow, Int.reduceBEq, Int.reduceBNe, Int.reduceToNat, Nat.reduceEqDiff, Int.reduceEq, decide_true, decide_false, ite_true, ite_false, reduceIte, reduceCtorEq, body_lc, wipeE, e_lstn, e_tupn, e_is, e_si, eo_cc, eo_int, eo_str, eo_bl, eo_nn, eo_nc, eo_cn, bothB_some, at0, at1, at2, DL.i_str, DL.s_str, DL.t_str, DL.in_str, DL.in_tup, DL.in_lst, DL.in_dS, DL.in_dI, DL.orB_some, DL.in_nil, DL.in_cons, DL.in_c1, o_kget, k_str1, Int.reduceDiv, Int.reduceMod, sp_whole h0 h1, sp_whole (a := 0) (by decide) (by decide)]; exact hQ)
  · simp (decide := true) only [o_v, o_non, o_bl, o_int, o_str, o_gl, o_tup, o_lstT, o_lstF, o_dct, o_bin, o_neg, o_not, o_and, o_or, o_and1, o_or1, o_and2, o_or2, o_cmp, o_cmp2, o_isn, o_notn, o_ite, o_ix, o_sl, o_fld, o_call, o_callv, o_bi, o_mt, o_isi, o_lc, o_nil, o_cons, o_pnil, o_pcons, o_part0, o_part1, o_T, o_ifs0, o_ifs1, o_tg, o_tgT, o_tgI, o_tgF, o_tgn, o_tgc, o_I, o_rng1, o_rng2, o_enum, o_zip, o_items, o_vals, o_ssn, o_ssc, th_nx, th_bk, th_ct, th_rt, th_rs, rt_rt, rt_nx, rt_rs, o_ex, o_ret, o_retn, o_asg, o_par, o_augv, o_iff, o_for, o_whl, o_brk, o_cnt, o_pas, o_frz, OO_some, OO_none, Ok_ok, sv0, svS, rdI, rdB, rdS, rdT, rdL, rdD, rdN, rdO, rdF, p_add, p_sub, p_mul, p_fdiv, p_mod, p_pow, p_addS, p_addT, p_addL, c_lt, c_le, c_gt, c_ge, c_eq, c_ne, c_in, c_nin, e_int, e_str, e_bl, t_bl, t_int, t_tup, t_lst, t_non, i_tup, i_lst, i_dS, i_dI, i_fn, s_tupl, s_lstl, n_tup, n_lst, n_dct, n_str, m_tup, m_lst, b_min, b_max, b_abs, b_all, b_any, b_sum, b_sort, isiAny, isiB, parSet, start0, Es.len, Tgs.len, List.map_cons, List.map_nil, List.length_cons, List.length_nil, List.cons_append, List.nil_append, List.replicate, List.set_cons_zero, List.set_cons_succ, Nat.reduceSub, Nat.reduceAdd, Nat.add_zero, Nat.zero_add, Nat.sub_self, Bool.not_true, Bool.not_false, if_true, if_false, Bool.true_and, Bool.and_true, Bool.false_and, Bool.and_false, Bool.not_not, Bool.false_eq_true, true_and, and_true, eq_self, rdR, rdAt, lenO, seqO, lstO, lsdO, dctO, atO, setO, frzO, b_len, b_tup, b_lstT, b_lstF, b_str, mo_app, mo_pop, mo_get, mo_join, a_app, a_pop, a_get, a_get2, a_join, z_set, f_frz, d_disp, d_dispT, q_last, q_set, k_str, k_int, l_nil, l_str, l_int, w_nil, w_str, w_int, dput, dmerge, dOf, intsOf, boolsOf, Option.map_some, Option.getD_some, Option.getD_none, Option.isSome_some, Option.isSome_none, fits_le, fits_lt, fits_s, body_for, ln_nx, ln_ct, ln_bk, ln_rt, ln_rs, Nat.reduceLeDiff, Nat.reduceLT, Nat.reduceMul, Int.reduceLT, Int.reduceLE, Int.reduceAdd, Int.reduceSub, Int.reduceMul, Int.reduceNeg, Int.reducePow, Int.reduceBEq, Int.reduceBNe, Int.reduceToNat, Nat.reduceEqDiff, Int.reduceEq, decide_true, decide_false, ite_true, ite_false, reduceIte, reduceCtorEq, body_lc, wipeE, e_lstn, e_tupn, e_is, e_si, eo_cc, eo_int, eo_str, eo_bl, eo_nn, eo_nc, eo_cn, bothB_some, at0, at1, at2, DL.i_str, DL.s_str, DL.t_str, DL.in_str, DL.in_tup, DL.in_lst, DL.in_dS, DL.in_dI, DL.orB_some, DL.in_nil, DL.in_cons, DL.in_c1, o_kget, k_str1, Int.reduceDiv, Int.reduceMod, List.filterMap_cons, List.filterMap_nil, List.all_cons, List.all_nil, id]
    refine (hb _ _ fun g' => ?_).to fun _ _ h => h
    simp only [o_v, o_non, o_bl, o_int, o_str, o_gl, o_tup, o_lstT, o_lstF, o_dct, o_bin, o_neg, o_not, o_and, o_or, o_and1, o_or1, o_and2, o_or2, o_cmp, o_cmp2, o_isn, o_notn, o_ite, o_ix, o_sl, o_fld, o_call, o_callv, o_bi, o_mt, o_isi, o_lc, o_nil, o_cons, o_pnil, o_pcons, o_part0, o_part1, o_T, o_ifs0, o_ifs1, o_tg, o_tgT, o_tgI, o_tgF, o_tgn, o_tgc, o_I, o_rng1, o_rng2, o_enum, o_zip, o_items, o_vals, o_ssn, o_ssc, th_nx, th_bk, th_ct, th_rt, th_rs, rt_rt, rt_nx, rt_rs, o_ex, o_ret, o_retn, o_asg, o_par, o_augv, o_iff, o_for, o_whl, o_brk, o_cnt, o_pas, o_frz, OO_some, OO_none, Ok_ok, sv0, svS, rdI, rdB, rdS, rdT, rdL, rdD, rdN, rdO, rdF, p_add, p_sub, p_mul, p_fdiv, p_mod, p_pow, p_addS, p_addT, p_addL, c_lt, c_le, c_gt, c_ge, c_eq, c_ne, c_in, c_nin, e_int, e_str, e_bl, t_bl, t_int, t_tup, t_lst, t_non, i_tup, i_lst, i_dS, i_dI, i_fn, s_tupl, s_lstl, n_tup, n_lst, n_dct, n_str, m_tup, m_lst, b_min, b_max, b_abs, b_all, b_any, b_sum, b_sort, isiAny, isiB, parSet, start0, Es.len, Tgs.len, List.map_cons, List.map_nil, List.length_cons, List.length_nil, List.cons_append, List.nil_append, List.replicate, List.set_cons_zero, List.set_cons_succ, Nat.reduceSub, Nat.reduceAdd, Nat.add_zero, Nat.zero_add, Nat.sub_self, Bool.not_true, Bool.not_false, if_true, if_false, Bool.true_and, Bool.and_true, Bool.false_and, Bool.and_false, Bool.not_not, Bool.false_eq_true, true_and, and_true, eq_self, rdR, rdAt, lenO, seqO, lstO, lsdO, dctO, atO, setO, frzO, b_len, b_tup, b_lstT, b_lstF, b_str, mo_app, mo_pop, mo_get, mo_join, a_app, a_pop, a_get, a_get2, a_join, z_set, f_frz, d_disp, d_dispT, q_last, q_set, k_str, k_int, l_nil, l_str, l_int, w_nil, w_str, w_int, dput, dmerge, dOf, intsOf, boolsOf, Option.map_some, Option.getD_some, Option.getD_none, Option.isSome_some, Option.isSome_none, fits_le, fits_lt, fits_s, body_for, ln_nx, ln_ct, ln_bk, ln_rt, ln_rs, Nat.reduceLeDiff, Nat.reduceLT, Nat.reduceMul, Int.reduceLT, Int.reduceLE, Int.reduceAdd, Int.reduceSub, Int.reduceMul, Int.reduceNeg, Int.reducePow, Int.reduceBEq, Int.reduceBNe, Int.reduceToNat, Nat.reduceEqDiff, Int.reduceEq, decide_true, decide_false, ite_true, ite_false, reduceIte, reduceCtorEq, body_lc, wipeE, e_lstn, e_tupn, e_is, e_si, eo_cc, eo_int, eo_str, eo_bl, eo_nn, eo_nc, eo_cn, bothB_some, at0, at1, at2, DL.i_str, DL.s_str, DL.t_str, DL.in_str, DL.in_tup, DL.in_lst, DL.in_dS, DL.in_dI, DL.orB_some, DL.in_nil, DL.in_cons, DL.in_c1, o_kget, k_str1, Int.reduceDiv, Int.reduceMod, hne]
    exact hq _
theorem part_mean (hq : ∀ g', Q (.bl true) g') : Ok ((cfN md.tb (n + 3)).call "_law_part_right" [.str "mean"] g) Q E := by
  refine part_gen (d1 := 1) (d2 := 2) (by decide) (by decide) rfl (by decide) (fun g Q h => ?_) hq
  rw [call_def D__law_both rfl]
  simp (decide := true) only [d__law_both, o_v, o_non, o_bl, o_int, o_str, o_gl, o_tup, o_lstT, o_lstF, o_dct, o_bin, o_neg, o_not, o_and, o_or, o_and1, o_or1, o_and2, o_or2, o_cmp, o_cmp2, o_isn, o_notn, o_ite, o_ix, o_sl, o_fld, o_call, o_callv, o_bi, o_mt, o_isi, o_lc, o_nil, o_cons, o_pnil, o_pcons, o_part0, o_part1, o_T, o_ifs0, o_ifs1, o_tg, o_tgT, o_tgI, o_tgF, o_tgn, o_tgc, o_I, o_rng1, o_rng2, o_enum, o_zip, o_items, o_vals, o_ssn, o_ssc, th_nx, th_bk, th_ct, th_rt, th_rs, rt_rt, rt_nx, rt_rs, o_ex, o_ret, o_retn, o_asg, o_par, o_augv, o_iff, o_for, o_whl, o_brk, o_cnt, o_pas, o_frz, OO_some, OO_none, Ok_ok, sv0, svS, rdI, rdB, rdS, rdT, rdL, rdD, rdN, rdO, rdF, p_add, p_sub, p_mul, p_fdiv, p_mod, p_pow, p_addS, p_addT, p_addL, c_lt, c_le, c_gt, c_ge, c_eq, c_ne, c_in, c_nin, e_int, e_str, e_bl, t_bl, t_int, t_tup, t_lst, t_non, i_tup, i_lst, i_dS, i_dI, i_fn, s_tupl, s_lstl, n_tup, n_lst, n_dct, n_str, m_tup, m_lst, b_min, b_max, b_abs, b_all, b_any, b_sum, b_sort, isiAny, isiB, parSet, start0, Es.len, Tgs.len, List.map_cons, List.map_nil, List.length_cons, List.length_nil, List.cons_append, List.nil_append, List.replicate, List.set_cons_zero, List.set_cons_succ, Nat.reduceSub, Nat.reduceAdd, Nat.add_zero, Nat.zero_add, Nat.sub_self, Bool.not_true, Bool.not_false, if_true, if_false, Bool.true_and, Bool.and_true, Bool.false_and, Bool.and_false, Bool.not_not, Bool.false_eq_true, true_and, and_true, eq_self, rdR, rdAt, lenO, seqO, lstO, lsdO, dctO, atO, setO, frzO, b_len, b_tup, b_lstT, b_lstF, b_str, mo_app, mo_pop, mo_get, mo_join, a_app, a_pop, a_get, a_get2, a_join, z_set, f_frz, d_disp, d_dispT, q_last, q_set, k_str, k_int, l_nil, l_str, l_int, w_nil, w_str, w_int, dput, dmerge, dOf, intsOf, boolsOf, Option.map_some, Option.getD_some, Option.getD_none, Option.isSome_some, Option.isSome_none, fits_le, fits_lt, fits_s, body_for, ln_nx, ln_ct, ln_bk, ln_rt, ln_rs, Nat.reduceLeDiff, Nat.reduceLT, Nat.reduceMul, Int.reduceLT, Int.reduceLE, Int.reduceAdd, Int.reduceSub, Int.reduceMul, Int.reduceNeg, Int.reducePow, Int.reduceBEq, Int.reduceBNe, Int.reduceToNat, Nat.reduceEqDiff, Int.reduceEq, decide_true, decide_false, ite_true, ite_false, reduceIte, reduceCtorEq, body_lc, wipeE, e_lstn, e_tupn, e_is, e_si, eo_cc, eo_int, eo_str, eo_bl, eo_nn, eo_nc, eo_cn, bothB_some, at0, at1, at2, DL.i_str, DL.s_str, DL.t_str, DL.in_str, DL.in_tup, DL.in_lst, DL.in_dS, DL.in_dI, DL.orB_some, DL.in_nil, DL.in_cons, DL.in_c1, o_kget, k_str1, Int.reduceDiv, Int.reduceMod, ld_mean]
  exact h _
theorem part_shift (hq : ∀ g', Q (.bl true) g') : Ok ((cfN md.tb (n + 3)).call "_law_part_right" [.str "shift"] g) Q E := by
  refine part_gen (d1 := 2) (d2 := 1) (by decide) (by decide) rfl (by decide) (fun g Q h => ?_) hq
  rw [call_def D__law_both rfl]
  simp (decide := true) only [d__law_both, o_v, o_non, o_bl, o_int, o_str, o_gl, o_tup, o_lstT, o_lstF, o_dct, o_bin, o_neg, o_not, o_and, o_or, o_and1, o_or1, o_and2, o_or2, o_cmp, o_cmp2, o_isn, o_notn, o_ite, o_ix, o_sl, o_fld, o_call, o_callv, o_bi, o_mt, o_isi, o_lc, o_nil, o_cons, o_pnil, o_pcons, o_part0, o_part1, o_T, o_ifs0, o_ifs1, o_tg, o_tgT, o_tgI, o_tgF, o_tgn, o_tgc, o_I, o_rng1, o_rng2, o_enum, o_zip, o_items, o_vals, o_ssn, o_ssc, th_nx, th_bk, th_ct, th_rt, th_rs, rt_rt, rt_nx, rt_rs, o_ex, o_ret, o_retn, o_asg, o_par, o_augv, o_iff, o_for, o_whl, o_brk, o_cnt, o_pas, o_frz, OO_some, OO_none, Ok_ok, sv0, svS, rdI, rdB, rdS, rdT, rdL, rdD, rdN, rdO, rdF, p_add, p_sub, p_mul, p_fdiv, p_mod, p_pow, p_addS, p_addT, p_addL, c_lt, c_le, c_gt, c_ge, c_eq, c_ne, c_in, c_nin, e_int, e_str, e_bl, t_bl, t_int, t_tup, t_lst, t_non, i_tup, i_lst, i_dS, i_dI, i_fn, s_tupl, s_lstl, n_tup, n_lst, n_dct, n_str, m_tup, m_lst, b_min, b_max, b_abs, b_all, b_any, b_sum, b_sort, isiAny, isiB, parSet, start0, Es.len, Tgs.len, List.map_cons, List.map_nil, List.length_cons, List.length_nil, List.cons_append, List.nil_append, List.replicate, List.set_cons_zero, List.set_cons_succ, Nat.reduceSub, Nat.reduceAdd, Nat.add_zero, Nat.zero_add, Nat.sub_self, Bool.not_true, Bool.not_false, if_true, if_false, Bool.true_and, Bool.and_true, Bool.false_and, Bool.and_false, Bool.not_not, Bool.false_eq_true, true_and, and_true, eq_self, rdR, rdAt, lenO, seqO, lstO, lsdO, dctO, atO, setO, frzO, b_len, b_tup, b_lstT, b_lstF, b_str, mo_app, mo_pop, mo_get, mo_join, a_app, a_pop, a_get, a_get2, a_join, z_set, f_frz, d_disp, d_dispT, q_last, q_set, k_str, k_int, l_nil, l_str, l_int, w_nil, w_str, w_int, dput, dmerge, dOf, intsOf, boolsOf, Option.map_some, Option.getD_some, Option.getD_none, Option.isSome_some, Option.isSome_none, fits_le, fits_lt, fits_s, body_for, ln_nx, ln_ct, ln_bk, ln_rt, ln_rs, Nat.reduceLeDiff, Nat.reduceLT, Nat.reduceMul, Int.reduceLT, Int.reduceLE, Int.reduceAdd, Int.reduceSub, Int.reduceMul, Int.reduceNeg, Int.reducePow, Int.reduceBEq, Int.reduceBNe, Int.reduceToNat, Nat.reduceEqDiff, Int.reduceEq, decide_true, decide_false, ite_true, ite_false, reduceIte, reduceCtorEq, body_lc, wipeE, e_lstn, e_tupn, e_is, e_si, eo_cc, eo_int, eo_str, eo_bl, eo_nn, eo_nc, eo_cn, bothB_some, at0, at1, at2, DL.i_str, DL.s_str, DL.t_str, DL.in_str, DL.in_tup, DL.in_lst, DL.in_dS, DL.in_dI, DL.orB_some, DL.in_nil, DL.in_cons, DL.in_c1, o_kget, k_str1, Int.reduceDiv, Int.reduceMod, ld_shift (a := 0) (by decide), ld_shift (a := 1) (by decide)]
  exact h _
theorem mm {p q : Int} : p % 1000003 * q % 1000003 = p * q % 1000003 := by
  rw [Int.mul_emod, Int.emod_emod, ← Int.mul_emod]
theorem min3 : (if b < (if a < x then a else x) then b else (if a < x then a else x)) = (if a < (if b < x then b else x) then a else (if b < x then b else x)) := by
  by_cases h1 : a < x <;> by_cases h2 : b < x <;> by_cases h3 : a < b <;> by_cases h4 : b < a <;> simp only [h1, h2, h3, h4, if_true, if_false] <;> omega
theorem max3 : (if b > (if a > x then a else x) then b else (if a > x then a else x)) = (if a > (if b > x then b else x) then a else (if b > x then b else x)) := by
  by_cases h1 : a > x <;> by_cases h2 : b > x <;> by_cases h3 : a > b <;> by_cases h4 : b > a <;> simp only [h1, h2, h3, h4, if_true, if_false] <;> omega
theorem sp_right {k c : Int} (h0 : 0 ≤ k) (h1 : k ≤ 100) (hq : ∀ g', Q (.bl true) g') : Ok ((cfN md.tb (n + 4)).call "_law_right" [.int c, .int k] g) Q E := by
  rw [call_def D__law_right rfl]
  simp (decide := true) only [d__law_right, o_v, o_non, o_bl, o_int, o_str, o_gl, o_tup, o_lstT, o_lstF, o_dct, o_bin, o_neg, o_not, o_and, o_or, o_and1, o_or1, o_and2, o_or2, o_cmp, o_cmp2, o_isn, o_notn, o_ite, o_ix, o_sl, o_fld, o_call, o_callv, o_bi, o_mt, o_isi, o_lc, o_nil, o_cons, o_pnil, o_pcons, o_part0, o_part1, o_T, o_ifs0, o_ifs1, o_tg, o_tgT, o_tgI, o_tgF, o_tgn, o_tgc, o_I, o_rng1, o_rng2, o_enum, o_zip, o_items, o_vals, o_ssn, o_ssc, th_nx, th_bk, th_ct, th_rt, th_rs, rt_rt, rt_nx, rt_rs, o_ex, o_ret, o_retn, o_asg, o_par, o_augv, o_iff, o_for, o_whl, o_brk, o_cnt, o_pas, o_frz, OO_some, OO_none, Ok_ok, sv0, svS, rdI, rdB, rdS, rdT, rdL, rdD, rdN, rdO, rdF, p_add, p_sub, p_mul, p_fdiv, p_mod, p_pow, p_addS, p_addT, p_addL, c_lt, c_le, c_gt, c_ge, c_eq, c_ne, c_in, c_nin, e_int, e_str, e_bl, t_bl, t_int, t_tup, t_lst, t_non, i_tup, i_lst, i_dS, i_dI, i_fn, s_tupl, s_lstl, n_tup, n_lst, n_dct, n_str, m_tup, m_lst, b_min, b_max, b_abs, b_all, b_any, b_sum, b_sort, isiAny, isiB, parSet, start0, Es.len, Tgs.len, List.map_cons, List.map_nil, List.length_cons, List.length_nil, List.cons_append, List.nil_append, List.replicate, List.set_cons_zero, List.set_cons_succ, Nat.reduceSub, Nat.reduceAdd, Nat.add_zero, Nat.zero_add, Nat.sub_self, Bool.not_true, Bool.not_false, if_true, if_false, Bool.true_and, Bool.and_true, Bool.false_and, Bool.and_false, Bool.not_not, Bool.false_eq_true, true_and, and_true, eq_self, rdR, rdAt, lenO, seqO, lstO, lsdO, dctO, atO, setO, frzO, b_len, b_tup, b_lstT, b_lstF, b_str, mo_app, mo_pop, mo_get, mo_join, a_app, a_pop, a_get, a_get2, a_join, z_set, f_frz, d_disp, d_dispT, q_last, q_set, k_str, k_int, l_nil, l_str, l_int, w_nil, w_str, w_int, dput, dmerge, dOf, intsOf, boolsOf, Option.map_some, Option.getD_some, Option.getD_none, Option.isSome_some, Option.isSome_none, fits_le, fits_lt, fits_s, body_for, ln_nx, ln_ct, ln_bk, ln_rt, ln_rs, Nat.reduceLeDiff, Nat.reduceLT, Nat.reduceMul, Int.reduceLT, Int.reduceLE, Int.reduceAdd, Int.reduceSub, Int.reduceMul, Int.reduceNeg, Int.reducePow, Int.reduceBEq, Int.reduceBNe, Int.reduceToNat, Nat.reduceEqDiff, Int.reduceEq, decide_true, decide_false, ite_true, ite_false, reduceIte, reduceCtorEq, body_lc, wipeE, e_lstn, e_tupn, e_is, e_si, eo_cc, eo_int, eo_str, eo_bl, eo_nn, eo_nc, eo_cn, bothB_some, at0, at1, at2, DL.i_str, DL.s_str, DL.t_str, DL.in_str, DL.in_tup, DL.in_lst, DL.in_dS, DL.in_dI, DL.orB_some, DL.in_nil, DL.in_cons, DL.in_c1, o_kget, k_str1, Int.reduceDiv, Int.reduceMod]
  refine sp_begun h0 (by omega) fun g1 hD1 hg1 hK1 => ?_
  have hn2 : g1.length ≠ g.length := by omega
  have r3 : rngD 0 3 = [.int 0, .int 1, .int 2] := rfl
  rw [r3]
  refine loop_fix (fun i ρ g' => ∃ xs y z : List Int, ∃ o1 o2 : Option D, xs.length = i ∧ (∀ v ∈ xs, 0 ≤ v ∧ v < 1000003) ∧ g'[g1.length]? = some (.lst (xs.map .int)) ∧ Dr g.length (4 * i) g' ∧ ρ = [some (.int c), some (.int k), some (.ref g.length), some (.ref g1.length), o1, none, o2, none, none]) ⟨[], [], [], _, _, rfl, (fun _ h => by cases h), by simp, hD1.app, rfl⟩ ?_ ?_
  · rintro i d ρ g2 hd ⟨xs, _, _, o1, o2, hl, hx, hg2, hD2, rfl⟩
    have hi : i < 3 := (List.getElem?_eq_some_iff.mp hd).1
    obtain ⟨j, rfl⟩ : ∃ j : Int, d = .int j := by
      have := List.mem_of_getElem? hd
      simp only [List.mem_cons, List.not_mem_nil, or_false] at this
      rcases this with rfl | rfl | rfl <;> exact ⟨_, rfl⟩
    try simp (decide := true) only [o_v, o_non, o_bl, o_int, o_str, o_gl, o_tup, o_lstT, o_lstF, o_dct, o_bin, o_neg, o_not, o_and, o_or, o_and1, o_or1, o_and2, o_or2, o_cmp, o_cmp2, o_isn, o_notn, o_ite, o_ix, o_sl, o_fld, o_call, o_callv, o_bi, o_mt, o_isi, o_lc, o_nil, o_cons, o_pnil, o_pcons, o_part0, o_part1, o_T, o_ifs0, o_ifs1, o_tg, o_tgT, o_tgI, o_tgF, o_tgn, o_tgc, o_I, o_rng1, o_rng2, o_enum, o_zip, o_items, o_vals, o_ssn, o_ssc, th_nx, th_bk, th_ct, th_rt, th_rs, rt_rt, rt_nx, rt_rs, o_ex, o_ret, o_retn, o_asg, o_par, o_augv, o_iff, o_for, o_whl, o_brk, o_cnt, o_pas, o_frz, OO_some, OO_none, Ok_ok, sv0, svS, rdI, rdB, rdS, rdT, rdL, rdD, rdN, rdO, rdF, p_add, p_sub, p_mul, p_fdiv, p_mod, p_pow, p_addS, p_addT, p_addL, c_lt, c_le, c_gt, c_ge, c_eq, c_ne, c_in, c_nin, e_int, e_str, e_bl, t_bl, t_int, t_tup, t_lst, t_non, i_tup, i_lst, i_dS, i_dI, i_fn, s_tupl, s_lstl, n_tup, n_lst, n_dct, n_str, m_tup, m_lst, b_min, b_max, b_abs, b_all, b_any, b_sum, b_sort, isiAny, isiB, parSet, start0, Es.len, Tgs.len, List.map_cons, List.map_nil, List.length_cons, List.length_nil, List.cons_append, List.nil_append, List.replicate, List.set_cons_zero, List.set_cons_succ, Nat.reduceSub, Nat.reduceAdd, Nat.add_zero, Nat.zero_add, Nat.sub_self, Bool.not_true, Bool.not_false, if_true, if_false, Bool.true_and, Bool.and_true, Bool.false_and, Bool.and_false, Bool.not_not, Bool.false_eq_true, true_and, and_true, eq_self, rdR, rdAt, lenO, seqO, lstO, lsdO, dctO, atO, setO, frzO, b_len, b_tup, b_lstT, b_lstF, b_str, mo_app, mo_pop, mo_get, mo_join, a_app, a_pop, a_get, a_get2, a_join, z_set, f_frz, d_disp, d_dispT, q_last, q_set, k_str, k_int, l_nil, l_str, l_int, w_nil, w_str, w_int, dput, dmerge, dOf, intsOf, boolsOf, Option.map_some, Option.getD_some, Option.getD_none, Option.isSome_some, Option.isSome_none, fits_le, fits_lt, fits_s, body_for, ln_nx, ln_ct, ln_bk, ln_rt, ln_rs, Nat.reduceLeDiff, Nat.reduceLT, Nat.reduceMul, Int.reduceLT, Int.reduceLE, Int.reduceAdd, Int.reduceSub, Int.reduceMul, Int.reduceNeg, Int.reducePow, Int.reduceBEq, Int.reduceBNe, Int.reduceToNat, Nat.reduceEqDiff, Int.reduceEq, decide_true, decide_false, ite_true, ite_false, reduceIte, reduceCtorEq, body_lc, wipeE, e_lstn, e_tupn, e_is, e_si, eo_cc, eo_int, eo_str, eo_bl, eo_nn, eo_nc, eo_cn, bothB_some, at0, at1, at2, DL.i_str, DL.s_str, DL.t_str, DL.in_str, DL.in_tup, DL.in_lst, DL.in_dS, DL.in_dI, DL.orB_some, DL.in_nil, DL.in_cons, DL.in_c1, o_kget, k_str1, Int.reduceDiv, Int.reduceMod]
    refine sp_next hD2 (by omega) (by decide) (by decide) fun v3 g3 a3 b3 hD3 hK3 hg3 => ?_
    have e3 := hK3.at hg2 (by simp; omega)
    try simp (decide := true) only [o_v, o_non, o_bl, o_int, o_str, o_gl, o_tup, o_lstT, o_lstF, o_dct, o_bin, o_neg, o_not, o_and, o_or, o_and1, o_or1, o_and2, o_or2, o_cmp, o_cmp2, o_isn, o_notn, o_ite, o_ix, o_sl, o_fld, o_call, o_callv, o_bi, o_mt, o_isi, o_lc, o_nil, o_cons, o_pnil, o_pcons, o_part0, o_part1, o_T, o_ifs0, o_ifs1, o_tg, o_tgT, o_tgI, o_tgF, o_tgn, o_tgc, o_I, o_rng1, o_rng2, o_enum, o_zip, o_items, o_vals, o_ssn, o_ssc, th_nx, th_bk, th_ct, th_rt, th_rs, rt_rt, rt_nx, rt_rs, o_ex, o_ret, o_retn, o_asg, o_par, o_augv, o_iff, o_for, o_whl, o_brk, o_cnt, o_pas, o_frz, OO_some, OO_none, Ok_ok, sv0, svS, rdI, rdB, rdS, rdT, rdL, rdD, rdN, rdO, rdF, p_add, p_sub, p_mul, p_fdiv, p_mod, p_pow, p_addS, p_addT, p_addL, c_lt, c_le, c_gt, c_ge, c_eq, c_ne, c_in, c_nin, e_int, e_str, e_bl, t_bl, t_int, t_tup, t_lst, t_non, i_tup, i_lst, i_dS, i_dI, i_fn, s_tupl, s_lstl, n_tup, n_lst, n_dct, n_str, m_tup, m_lst, b_min, b_max, b_abs, b_all, b_any, b_sum, b_sort, isiAny, isiB, parSet, start0, Es.len, Tgs.len, List.map_cons, List.map_nil, List.length_cons, List.length_nil, List.cons_append, List.nil_append, List.replicate, List.set_cons_zero, List.set_cons_succ, Nat.reduceSub, Nat.reduceAdd, Nat.add_zero, Nat.zero_add, Nat.sub_self, Bool.not_true, Bool.not_false, if_true, if_false, Bool.true_and, Bool.and_true, Bool.false_and, Bool.and_false, Bool.not_not, Bool.false_eq_true, true_and, and_true, eq_self, rdR, rdAt, lenO, seqO, lstO, lsdO, dctO, atO, setO, frzO, b_len, b_tup, b_lstT, b_lstF, b_str, mo_app, mo_pop, mo_get, mo_join, a_app, a_pop, a_get, a_get2, a_join, z_set, f_frz, d_disp, d_dispT, q_last, q_set, k_str, k_int, l_nil, l_str, l_int, w_nil, w_str, w_int, dput, dmerge, dOf, intsOf, boolsOf, Option.map_some, Option.getD_some, Option.getD_none, Option.isSome_some, Option.isSome_none, fits_le, fits_lt, fits_s, body_for, ln_nx, ln_ct, ln_bk, ln_rt, ln_rs, Nat.reduceLeDiff, Nat.reduceLT, Nat.reduceMul, Int.reduceLT, Int.reduceLE, Int.reduceAdd, Int.reduceSub, Int.reduceMul, Int.reduceNeg, Int.reducePow, Int.reduceBEq, Int.reduceBNe, Int.reduceToNat, Nat.reduceEqDiff, Int.reduceEq, decide_true, decide_false, ite_true, ite_false, reduceIte, reduceCtorEq, body_lc, wipeE, e_lstn, e_tupn, e_is, e_si, eo_cc, eo_int, eo_str, eo_bl, eo_nn, eo_nc, eo_cn, bothB_some, at0, at1, at2, DL.i_str, DL.s_str, DL.t_str, DL.in_str, DL.in_tup, DL.in_lst, DL.in_dS, DL.in_dI, DL.orB_some, DL.in_nil, DL.in_cons, DL.in_c1, o_kget, k_str1, Int.reduceDiv, Int.reduceMod, e3]
    refine sp_next hD3 (by omega) (by decide) (by decide) fun v4 g4 a4 b4 hD4 hK4 hg4 => ?_
    have e4 := hK4.at e3 (by simp; omega)
    try simp (decide := true) only [o_v, o_non, o_bl, o_int, o_str, o_gl, o_tup, o_lstT, o_lstF, o_dct, o_bin, o_neg, o_not, o_and, o_or, o_and1, o_or1, o_and2, o_or2, o_cmp, o_cmp2, o_isn, o_notn, o_ite, o_ix, o_sl, o_fld, o_call, o_callv, o_bi, o_mt, o_isi, o_lc, o_nil, o_cons, o_pnil, o_pcons, o_part0, o_part1, o_T, o_ifs0, o_ifs1, o_tg, o_tgT, o_tgI, o_tgF, o_tgn, o_tgc, o_I, o_rng1, o_rng2, o_enum, o_zip, o_items, o_vals, o_ssn, o_ssc, th_nx, th_bk, th_ct, th_rt, th_rs, rt_rt, rt_nx, rt_rs, o_ex, o_ret, o_retn, o_asg, o_par, o_augv, o_iff, o_for, o_whl, o_brk, o_cnt, o_pas, o_frz, OO_some, OO_none, Ok_ok, sv0, svS, rdI, rdB, rdS, rdT, rdL, rdD, rdN, rdO, rdF, p_add, p_sub, p_mul, p_fdiv, p_mod, p_pow, p_addS, p_addT, p_addL, c_lt, c_le, c_gt, c_ge, c_eq, c_ne, c_in, c_nin, e_int, e_str, e_bl, t_bl, t_int, t_tup, t_lst, t_non, i_tup, i_lst, i_dS, i_dI, i_fn, s_tupl, s_lstl, n_tup, n_lst, n_dct, n_str, m_tup, m_lst, b_min, b_max, b_abs, b_all, b_any, b_sum, b_sort, isiAny, isiB, parSet, start0, Es.len, Tgs.len, List.map_cons, List.map_nil, List.length_cons, List.length_nil, List.cons_append, List.nil_append, List.replicate, List.set_cons_zero, List.set_cons_succ, Nat.reduceSub, Nat.reduceAdd, Nat.add_zero, Nat.zero_add, Nat.sub_self, Bool.not_true, Bool.not_false, if_true, if_false, Bool.true_and, Bool.and_true, Bool.false_and, Bool.and_false, Bool.not_not, Bool.false_eq_true, true_and, and_true, eq_self, rdR, rdAt, lenO, seqO, lstO, lsdO, dctO, atO, setO, frzO, b_len, b_tup, b_lstT, b_lstF, b_str, mo_app, mo_pop, mo_get, mo_join, a_app, a_pop, a_get, a_get2, a_join, z_set, f_frz, d_disp, d_dispT, q_last, q_set, k_str, k_int, l_nil, l_str, l_int, w_nil, w_str, w_int, dput, dmerge, dOf, intsOf, boolsOf, Option.map_some, Option.getD_some, Option.getD_none, Option.isSome_some, Option.isSome_none, fits_le, fits_lt, fits_s, body_for, ln_nx, ln_ct, ln_bk, ln_rt, ln_rs, Nat.reduceLeDiff, Nat.reduceLT, Nat.reduceMul, Int.reduceLT, Int.reduceLE, Int.reduceAdd, Int.reduceSub, Int.reduceMul, Int.reduceNeg, Int.reducePow, Int.reduceBEq, Int.reduceBNe, Int.reduceToNat, Nat.reduceEqDiff, Int.reduceEq, decide_true, decide_false, ite_true, ite_false, reduceIte, reduceCtorEq, body_lc, wipeE, e_lstn, e_tupn, e_is, e_si, eo_cc, eo_int, eo_str, eo_bl, eo_nn, eo_nc, eo_cn, bothB_some, at0, at1, at2, DL.i_str, DL.s_str, DL.t_str, DL.in_str, DL.in_tup, DL.in_lst, DL.in_dS, DL.in_dI, DL.orB_some, DL.in_nil, DL.in_cons, DL.in_c1, o_kget, k_str1, Int.reduceDiv, Int.reduceMod, e4]
    refine sp_next hD4 (by omega) (by decide) (by decide) fun v5 g5 a5 b5 hD5 hK5 hg5 => ?_
    have e5 := hK5.at e4 (by simp; omega)
    try simp (decide := true) only [o_v, o_non, o_bl, o_int, o_str, o_gl, o_tup, o_lstT, o_lstF, o_dct, o_bin, o_neg, o_not, o_and, o_or, o_and1, o_or1, o_and2, o_or2, o_cmp, o_cmp2, o_isn, o_notn, o_ite, o_ix, o_sl, o_fld, o_call, o_callv, o_bi, o_mt, o_isi, o_lc, o_nil, o_cons, o_pnil, o_pcons, o_part0, o_part1, o_T, o_ifs0, o_ifs1, o_tg, o_tgT, o_tgI, o_tgF, o_tgn, o_tgc, o_I, o_rng1, o_rng2, o_enum, o_zip, o_items, o_vals, o_ssn, o_ssc, th_nx, th_bk, th_ct, th_rt, th_rs, rt_rt, rt_nx, rt_rs, o_ex, o_ret, o_retn, o_asg, o_par, o_augv, o_iff, o_for, o_whl, o_brk, o_cnt, o_pas, o_frz, OO_some, OO_none, Ok_ok, sv0, svS, rdI, rdB, rdS, rdT, rdL, rdD, rdN, rdO, rdF, p_add, p_sub, p_mul, p_fdiv, p_mod, p_pow, p_addS, p_addT, p_addL, c_lt, c_le, c_gt, c_ge, c_eq, c_ne, c_in, c_nin, e_int, e_str, e_bl, t_bl, t_int, t_tup, t_lst, t_non, i_tup, i_lst, i_dS, i_dI, i_fn, s_tupl, s_lstl, n_tup, n_lst, n_dct, n_str, m_tup, m_lst, b_min, b_max, b_abs, b_all, b_any, b_sum, b_sort, isiAny, isiB, parSet, start0, Es.len, Tgs.len, List.map_cons, List.map_nil, List.length_cons, List.length_nil, List.cons_append, List.nil_append, List.replicate, List.set_cons_zero, List.set_cons_succ, Nat.reduceSub, Nat.reduceAdd, Nat.add_zero, Nat.zero_add, Nat.sub_self, Bool.not_true, Bool.not_false, if_true, if_false, Bool.true_and, Bool.and_true, Bool.false_and, Bool.and_false, Bool.not_not, Bool.false_eq_true, true_and, and_true, eq_self, rdR, rdAt, lenO, seqO, lstO, lsdO, dctO, atO, setO, frzO, b_len, b_tup, b_lstT, b_lstF, b_str, mo_app, mo_pop, mo_get, mo_join, a_app, a_pop, a_get, a_get2, a_join, z_set, f_frz, d_disp, d_dispT, q_last, q_set, k_str, k_int, l_nil, l_str, l_int, w_nil, w_str, w_int, dput, dmerge, dOf, intsOf, boolsOf, Option.map_some, Option.getD_some, Option.getD_none, Option.isSome_some, Option.isSome_none, fits_le, fits_lt, fits_s, body_for, ln_nx, ln_ct, ln_bk, ln_rt, ln_rs, Nat.reduceLeDiff, Nat.reduceLT, Nat.reduceMul, Int.reduceLT, Int.reduceLE, Int.reduceAdd, Int.reduceSub, Int.reduceMul, Int.reduceNeg, Int.reducePow, Int.reduceBEq, Int.reduceBNe, Int.reduceToNat, Nat.reduceEqDiff, Int.reduceEq, decide_true, decide_false, ite_true, ite_false, reduceIte, reduceCtorEq, body_lc, wipeE, e_lstn, e_tupn, e_is, e_si, eo_cc, eo_int, eo_str, eo_bl, eo_nn, eo_nc, eo_cn, bothB_some, at0, at1, at2, DL.i_str, DL.s_str, DL.t_str, DL.in_str, DL.in_tup, DL.in_lst, DL.in_dS, DL.in_dI, DL.orB_some, DL.in_nil, DL.in_cons, DL.in_c1, o_kget, k_str1, Int.reduceDiv, Int.reduceMod, e5]
    refine sp_next hD5 (by omega) (by decide) (by decide) fun v6 g6 a6 b6 hD6 hK6 hg6 => ?_
    have e6 := hK6.at e5 (by simp; omega)
    obtain ⟨d7, e7, hd7⟩ := at_some (xs := [D.int v4, .int (1000002 - v5), .int v3]) a6 (by simpa using b6)
    try simp (decide := true) only [o_v, o_non, o_bl, o_int, o_str, o_gl, o_tup, o_lstT, o_lstF, o_dct, o_bin, o_neg, o_not, o_and, o_or, o_and1, o_or1, o_and2, o_or2, o_cmp, o_cmp2, o_isn, o_notn, o_ite, o_ix, o_sl, o_fld, o_call, o_callv, o_bi, o_mt, o_isi, o_lc, o_nil, o_cons, o_pnil, o_pcons, o_part0, o_part1, o_T, o_ifs0, o_ifs1, o_tg, o_tgT, o_tgI, o_tgF, o_tgn, o_tgc, o_I, o_rng1, o_rng2, o_enum, o_zip, o_items, o_vals, o_ssn, o_ssc, th_nx, th_bk, th_ct, th_rt, th_rs, rt_rt, rt_nx, rt_rs, o_ex, o_ret, o_retn, o_asg, o_par, o_augv, o_iff, o_for, o_whl, o_brk, o_cnt, o_pas, o_frz, OO_some, OO_none, Ok_ok, sv0, svS, rdI, rdB, rdS, rdT, rdL, rdD, rdN, rdO, rdF, p_add, p_sub, p_mul, p_fdiv, p_mod, p_pow, p_addS, p_addT, p_addL, c_lt, c_le, c_gt, c_ge, c_eq, c_ne, c_in, c_nin, e_int, e_str, e_bl, t_bl, t_int, t_tup, t_lst, t_non, i_tup, i_lst, i_dS, i_dI, i_fn, s_tupl, s_lstl, n_tup, n_lst, n_dct, n_str, m_tup, m_lst, b_min, b_max, b_abs, b_all, b_any, b_sum, b_sort, isiAny, isiB, parSet, start0, Es.len, Tgs.len, List.map_cons, List.map_nil, List.length_cons, List.length_nil, List.cons_append, List.nil_append, List.replicate, List.set_cons_zero, List.set_cons_succ, Nat.reduceSub, Nat.reduceAdd, Nat.add_zero, Nat.zero_add, Nat.sub_self, Bool.not_true, Bool.not_false, if_true, if_false, Bool.true_and, Bool.and_true, Bool.false_and, Bool.and_false, Bool.not_not, Bool.false_eq_true, true_and, and_true, eq_self, rdR, rdAt, lenO, seqO, lstO, lsdO, dctO, atO, setO, frzO, b_len, b_tup, b_lstT, b_lstF, b_str, mo_app, mo_pop, mo_get, mo_join, a_app, a_pop, a_get, a_get2, a_join, z_set, f_frz, d_disp, d_dispT, q_last, q_set, k_str, k_int, l_nil, l_str, l_int, w_nil, w_str, w_int, dput, dmerge, dOf, intsOf, boolsOf, Option.map_some, Option.getD_some, Option.getD_none, Option.isSome_some, Option.isSome_none, fits_le, fits_lt, fits_s, body_for, ln_nx, ln_ct, ln_bk, ln_rt, ln_rs, Nat.reduceLeDiff, Nat.reduceLT, Nat.reduceMul, Int.reduceLT, Int.reduceLE, Int.reduceAdd, Int.reduceSub, Int.reduceMul, Int.reduceNeg, Int.reducePow, Int.reduceBEq, Int.reduceBNe, Int.reduceToNat, Nat.reduceEqDiff, Int.reduceEq, decide_true, decide_false, ite_true, ite_false, reduceIte, reduceCtorEq, body_lc, wipeE, e_lstn, e_tupn, e_is, e_si, eo_cc, eo_int, eo_str, eo_bl, eo_nn, eo_nc, eo_cn, bothB_some, at0, at1, at2, DL.i_str, DL.s_str, DL.t_str, DL.in_str, DL.in_tup, DL.in_lst, DL.in_dS, DL.in_dI, DL.orB_some, DL.in_nil, DL.in_cons, DL.in_c1, o_kget, k_str1, Int.reduceDiv, Int.reduceMod, e6, e7]
    obtain ⟨w, rfl, hw⟩ : ∃ w : Int, d7 = .int w ∧ 0 ≤ w ∧ w < 1000003 := by
      simp only [List.mem_cons, List.not_mem_nil, or_false] at hd7
      rcases hd7 with rfl | rfl | rfl <;> exact ⟨_, rfl, by omega, by omega⟩
    refine ⟨fits (by simp; omega), xs ++ [w], [], [], _, _, by simp [hl], ?_, ?_, (hD6.set hn2).mono (by omega), rfl⟩
    · intro u hu
      rcases List.mem_append.mp hu with h | h
      · exact hx u h
      · simp at h; subst h; exact hw
    · rw [set_self e6]; simp
  · rintro ρ g2 ⟨xs, _, _, o1, o2, hl, hx, hg2, hD2, rfl⟩
    obtain ⟨x, a, b, rfl⟩ : ∃ x a b, xs = [x, a, b] := by
      match xs, hl with
      | [x, a, b], _ => exact ⟨x, a, b, rfl⟩
    obtain ⟨x0, x1⟩ := hx x (by simp)
    obtain ⟨a0, a1⟩ := hx a (by simp)
    obtain ⟨b0, b1⟩ := hx b (by simp)
    have hxa : x.natAbs < 2 ^ 64 := by omega
    have z1 : ((x + a) % 1000003 + b) % 1000003 = ((x + b) % 1000003 + a) % 1000003 := by omega
    have z2 : ((x - a) % 1000003 - b) % 1000003 = ((x - b) % 1000003 - a) % 1000003 := by omega
    have z3 : x * a % 1000003 * b % 1000003 = x * b % 1000003 * a % 1000003 := by
      rw [mm, mm, Int.mul_assoc, Int.mul_comm a b, Int.mul_assoc]
    have z4 := min3 (x := x) (a := a) (b := b)
    have z5 := max3 (x := x) (a := a) (b := b)
    simp (decide := true) only [o_v, o_non, o_bl, o_int, o_str, o_gl, o_tup, o_lstT, o_lstF, o_dct, o_bin, o_neg, o_not, o_and, o_or, o_and1, o_or1, o_and2, o_or2, o_cmp, o_cmp2, o_isn, o_notn, o_ite, o_ix, o_sl, o_fld, o_call, o_callv, o_bi, o_mt, o_isi, o_lc, o_nil, o_cons, o_pnil, o_pcons, o_part0, o_part1, o_T, o_ifs0, o_ifs1, o_tg, o_tgT, o_tgI, o_tgF, o_tgn, o_tgc, o_I, o_rng1, o_rng2, o_enum, o_zip, o_items, o_vals, o_ssn, o_ssc, th_nx, th_bk, th_ct, th_rt, th_rs, rt_rt, rt_nx, rt_rs, o_ex, o_ret, o_retn, o_asg, o_par, o_augv, o_iff, o_for, o_whl, o_brk, o_cnt, o_pas, o_frz, OO_some, OO_none, Ok_ok, sv0, svS, rdI, rdB, rdS, rdT, rdL, rdD, rdN, rdO, rdF, p_add, p_sub, p_mul, p_fdiv, p_mod, p_pow, p_addS, p_addT, p_addL, c_lt, c_le, c_gt, c_ge, c_eq, c_ne, c_in, c_nin, e_int, e_str, e_bl, t_bl, t_int, t_tup, t_lst, t_non, i_tup, i_lst, i_dS, i_dI, i_fn, s_tupl, s_lstl, n_tup, n_lst, n_dct, n_str, m_tup, m_lst, b_min, b_max, b_abs, b_all, b_any, b_sum, b_sort, isiAny, isiB, parSet, start0, Es.len, Tgs.len, List.map_cons, List.map_nil, List.length_cons, List.length_nil, List.cons_append, List.nil_append, List.replicate, List.set_cons_zero, List.set_cons_succ, Nat.reduceSub, Nat.reduceAdd, Nat.add_zero, Nat.zero_add, Nat.sub_self, Bool.not_true, Bool.not_false, if_true, if_false, Bool.true_and, Bool.and_true, Bool.false_and, Bool.and_false, Bool.not_not, Bool.false_eq_true, true_and, and_true, eq_self, rdR, rdAt, lenO, seqO, lstO, lsdO, dctO, atO, setO, frzO, b_len, b_tup, b_lstT, b_lstF, b_str, mo_app, mo_pop, mo_get, mo_join, a_app, a_pop, a_get, a_get2, a_join, z_set, f_frz, d_disp, d_dispT, q_last, q_set, k_str, k_int, l_nil, l_str, l_int, w_nil, w_str, w_int, dput, dmerge, dOf, intsOf, boolsOf, Option.map_some, Option.getD_some, Option.getD_none, Option.isSome_some, Option.isSome_none, fits_le, fits_lt, fits_s, body_for, ln_nx, ln_ct, ln_bk, ln_rt, ln_rs, Nat.reduceLeDiff, Nat.reduceLT, Nat.reduceMul, Int.reduceLT, Int.reduceLE, Int.reduceAdd, Int.reduceSub, Int.reduceMul, Int.reduceNeg, Int.reducePow, Int.reduceBEq, Int.reduceBNe, Int.reduceToNat, Nat.reduceEqDiff, Int.reduceEq, decide_true, decide_false, ite_true, ite_false, reduceIte, reduceCtorEq, body_lc, wipeE, e_lstn, e_tupn, e_is, e_si, eo_cc, eo_int, eo_str, eo_bl, eo_nn, eo_nc, eo_cn, bothB_some, at0, at1, at2, DL.i_str, DL.s_str, DL.t_str, DL.in_str, DL.in_tup, DL.in_lst, DL.in_dS, DL.in_dI, DL.orB_some, DL.in_nil, DL.in_cons, DL.in_c1, o_kget, k_str1, Int.reduceDiv, Int.reduceMod, hg2]
    rw [loop_cons]
    simp (decide := true) only [o_v, o_non, o_bl, o_int, o_str, o_gl, o_tup, o_lstT, o_lstF, o_dct, o_bin, o_neg, o_not, o_and, o_or, o_and1, o_or1, o_and2, o_or2, o_cmp, o_cmp2, o_isn, o_notn, o_ite, o_ix, o_sl, o_fld, o_call, o_callv, o_bi, o_mt, o_isi, o_lc, o_nil, o_cons, o_pnil, o_pcons, o_part0, o_part1, o_T, o_ifs0, o_ifs1, o_tg, o_tgT, o_tgI, o_tgF, o_tgn, o_tgc, o_I, o_rng1, o_rng2, o_enum, o_zip, o_items, o_vals, o_ssn, o_ssc, th_nx, th_bk, th_ct, th_rt, th_rs, rt_rt, rt_nx, rt_rs, o_ex, o_ret, o_retn, o_asg, o_par, o_augv, o_iff, o_for, o_whl, o_brk, o_cnt, o_pas, o_frz, OO_some, OO_none, Ok_ok, sv0, svS, rdI, rdB, rdS, rdT, rdL, rdD, rdN, rdO, rdF, p_add, p_sub, p_mul, p_fdiv, p_mod, p_pow, p_addS, p_addT, p_addL, c_lt, c_le, c_gt, c_ge, c_eq, c_ne, c_in, c_nin, e_int, e_str, e_bl, t_bl, t_int, t_tup, t_lst, t_non, i_tup, i_lst, i_dS, i_dI, i_fn, s_tupl, s_lstl, n_tup, n_lst, n_dct, n_str, m_tup, m_lst, b_min, b_max, b_abs, b_all, b_any, b_sum, b_sort, isiAny, isiB, parSet, start0, Es.len, Tgs.len, List.map_cons, List.map_nil, List.length_cons, List.length_nil, List.cons_append, List.nil_append, List.replicate, List.set_cons_zero, List.set_cons_succ, Nat.reduceSub, Nat.reduceAdd, Nat.add_zero, Nat.zero_add, Nat.sub_self, Bool.not_true, Bool.not_false, if_true, if_false, Bool.true_and, Bool.and_true, Bool.false_and, Bool.and_false, Bool.not_not, Bool.false_eq_true, true_and, and_true, eq_self, rdR, rdAt, lenO, seqO, lstO, lsdO, dctO, atO, setO, frzO, b_len, b_tup, b_lstT, b_lstF, b_str, mo_app, mo_pop, mo_get, mo_join, a_app, a_pop, a_get, a_get2, a_join, z_set, f_frz, d_disp, d_dispT, q_last, q_set, k_str, k_int, l_nil, l_str, l_int, w_nil, w_str, w_int, dput, dmerge, dOf, intsOf, boolsOf, Option.map_some, Option.getD_some, Option.getD_none, Option.isSome_some, Option.isSome_none, fits_le, fits_lt, fits_s, body_for, ln_nx, ln_ct, ln_bk, ln_rt, ln_rs, Nat.reduceLeDiff, Nat.reduceLT, Nat.reduceMul, Int.reduceLT, Int.reduceLE, Int.reduceAdd, Int.reduceSub, Int.reduceMul, Int.reduceNeg, Int.reducePow, Int.reduceBEq, Int.reduceBNe, Int.reduceToNat, Nat.reduceEqDiff, Int.reduceEq, decide_true, decide_false, ite_true, ite_false, reduceIte, reduceCtorEq, body_lc, wipeE, e_lstn, e_tupn, e_is, e_si, eo_cc, eo_int, eo_str, eo_bl, eo_nn, eo_nc, eo_cn, bothB_some, at0, at1, at2, DL.i_str, DL.s_str, DL.t_str, DL.in_str, DL.in_tup, DL.in_lst, DL.in_dS, DL.in_dI, DL.orB_some, DL.in_nil, DL.in_cons, DL.in_c1, o_kget, k_str1, Int.reduceDiv, Int.reduceMod, lb_plus hxa, pt_no (w := "plus") rfl, dd_plus, z1, beq_self_eq_true]
    rw [loop_cons]
    simp (decide := true) only [o_v, o_non, o_bl, o_int, o_str, o_gl, o_tup, o_lstT, o_lstF, o_dct, o_bin, o_neg, o_not, o_and, o_or, o_and1, o_or1, o_and2, o_or2, o_cmp, o_cmp2, o_isn, o_notn, o_ite, o_ix, o_sl, o_fld, o_call, o_callv, o_bi, o_mt, o_isi, o_lc, o_nil, o_cons, o_pnil, o_pcons, o_part0, o_part1, o_T, o_ifs0, o_ifs1, o_tg, o_tgT, o_tgI, o_tgF, o_tgn, o_tgc, o_I, o_rng1, o_rng2, o_enum, o_zip, o_items, o_vals, o_ssn, o_ssc, th_nx, th_bk, th_ct, th_rt, th_rs, rt_rt, rt_nx, rt_rs, o_ex, o_ret, o_retn, o_asg, o_par, o_augv, o_iff, o_for, o_whl, o_brk, o_cnt, o_pas, o_frz, OO_some, OO_none, Ok_ok, sv0, svS, rdI, rdB, rdS, rdT, rdL, rdD, rdN, rdO, rdF, p_add, p_sub, p_mul, p_fdiv, p_mod, p_pow, p_addS, p_addT, p_addL, c_lt, c_le, c_gt, c_ge, c_eq, c_ne, c_in, c_nin, e_int, e_str, e_bl, t_bl, t_int, t_tup, t_lst, t_non, i_tup, i_lst, i_dS, i_dI, i_fn, s_tupl, s_lstl, n_tup, n_lst, n_dct, n_str, m_tup, m_lst, b_min, b_max, b_abs, b_all, b_any, b_sum, b_sort, isiAny, isiB, parSet, start0, Es.len, Tgs.len, List.map_cons, List.map_nil, List.length_cons, List.length_nil, List.cons_append, List.nil_append, List.replicate, List.set_cons_zero, List.set_cons_succ, Nat.reduceSub, Nat.reduceAdd, Nat.add_zero, Nat.zero_add, Nat.sub_self, Bool.not_true, Bool.not_false, if_true, if_false, Bool.true_and, Bool.and_true, Bool.false_and, Bool.and_false, Bool.not_not, Bool.false_eq_true, true_and, and_true, eq_self, rdR, rdAt, lenO, seqO, lstO, lsdO, dctO, atO, setO, frzO, b_len, b_tup, b_lstT, b_lstF, b_str, mo_app, mo_pop, mo_get, mo_join, a_app, a_pop, a_get, a_get2, a_join, z_set, f_frz, d_disp, d_dispT, q_last, q_set, k_str, k_int, l_nil, l_str, l_int, w_nil, w_str, w_int, dput, dmerge, dOf, intsOf, boolsOf, Option.map_some, Option.getD_some, Option.getD_none, Option.isSome_some, Option.isSome_none, fits_le, fits_lt, fits_s, body_for, ln_nx, ln_ct, ln_bk, ln_rt, ln_rs, Nat.reduceLeDiff, Nat.reduceLT, Nat.reduceMul, Int.reduceLT, Int.reduceLE, Int.reduceAdd, Int.reduceSub, Int.reduceMul, Int.reduceNeg, Int.reducePow, Int.reduceBEq, Int.reduceBNe, Int.reduceToNat, Nat.reduceEqDiff, Int.reduceEq, decide_true, decide_false, ite_true, ite_false, reduceIte, reduceCtorEq, body_lc, wipeE, e_lstn, e_tupn, e_is, e_si, eo_cc, eo_int, eo_str, eo_bl, eo_nn, eo_nc, eo_cn, bothB_some, at0, at1, at2, DL.i_str, DL.s_str, DL.t_str, DL.in_str, DL.in_tup, DL.in_lst, DL.in_dS, DL.in_dI, DL.orB_some, DL.in_nil, DL.in_cons, DL.in_c1, o_kget, k_str1, Int.reduceDiv, Int.reduceMod, lb_less hxa, pt_no (w := "less") rfl, dd_less, z2, beq_self_eq_true]
    rw [loop_cons]
    simp (decide := true) only [o_v, o_non, o_bl, o_int, o_str, o_gl, o_tup, o_lstT, o_lstF, o_dct, o_bin, o_neg, o_not, o_and, o_or, o_and1, o_or1, o_and2, o_or2, o_cmp, o_cmp2, o_isn, o_notn, o_ite, o_ix, o_sl, o_fld, o_call, o_callv, o_bi, o_mt, o_isi, o_lc, o_nil, o_cons, o_pnil, o_pcons, o_part0, o_part1, o_T, o_ifs0, o_ifs1, o_tg, o_tgT, o_tgI, o_tgF, o_tgn, o_tgc, o_I, o_rng1, o_rng2, o_enum, o_zip, o_items, o_vals, o_ssn, o_ssc, th_nx, th_bk, th_ct, th_rt, th_rs, rt_rt, rt_nx, rt_rs, o_ex, o_ret, o_retn, o_asg, o_par, o_augv, o_iff, o_for, o_whl, o_brk, o_cnt, o_pas, o_frz, OO_some, OO_none, Ok_ok, sv0, svS, rdI, rdB, rdS, rdT, rdL, rdD, rdN, rdO, rdF, p_add, p_sub, p_mul, p_fdiv, p_mod, p_pow, p_addS, p_addT, p_addL, c_lt, c_le, c_gt, c_ge, c_eq, c_ne, c_in, c_nin, e_int, e_str, e_bl, t_bl, t_int, t_tup, t_lst, t_non, i_tup, i_lst, i_dS, i_dI, i_fn, s_tupl, s_lstl, n_tup, n_lst, n_dct, n_str, m_tup, m_lst, b_min, b_max, b_abs, b_all, b_any, b_sum, b_sort, isiAny, isiB, parSet, start0, Es.len, Tgs.len, List.map_cons, List.map_nil, List.length_cons, List.length_nil, List.cons_append, List.nil_append, List.replicate, List.set_cons_zero, List.set_cons_succ, Nat.reduceSub, Nat.reduceAdd, Nat.add_zero, Nat.zero_add, Nat.sub_self, Bool.not_true, Bool.not_false, if_true, if_false, Bool.true_and, Bool.and_true, Bool.false_and, Bool.and_false, Bool.not_not, Bool.false_eq_true, true_and, and_true, eq_self, rdR, rdAt, lenO, seqO, lstO, lsdO, dctO, atO, setO, frzO, b_len, b_tup, b_lstT, b_lstF, b_str, mo_app, mo_pop, mo_get, mo_join, a_app, a_pop, a_get, a_get2, a_join, z_set, f_frz, d_disp, d_dispT, q_last, q_set, k_str, k_int, l_nil, l_str, l_int, w_nil, w_str, w_int, dput, dmerge, dOf, intsOf, boolsOf, Option.map_some, Option.getD_some, Option.getD_none, Option.isSome_some, Option.isSome_none, fits_le, fits_lt, fits_s, body_for, ln_nx, ln_ct, ln_bk, ln_rt, ln_rs, Nat.reduceLeDiff, Nat.reduceLT, Nat.reduceMul, Int.reduceLT, Int.reduceLE, Int.reduceAdd, Int.reduceSub, Int.reduceMul, Int.reduceNeg, Int.reducePow, Int.reduceBEq, Int.reduceBNe, Int.reduceToNat, Nat.reduceEqDiff, Int.reduceEq, decide_true, decide_false, ite_true, ite_false, reduceIte, reduceCtorEq, body_lc, wipeE, e_lstn, e_tupn, e_is, e_si, eo_cc, eo_int, eo_str, eo_bl, eo_nn, eo_nc, eo_cn, bothB_some, at0, at1, at2, DL.i_str, DL.s_str, DL.t_str, DL.in_str, DL.in_tup, DL.in_lst, DL.in_dS, DL.in_dI, DL.orB_some, DL.in_nil, DL.in_cons, DL.in_c1, o_kget, k_str1, Int.reduceDiv, Int.reduceMod, lb_times hxa, pt_no (w := "times") rfl, dd_times hxa, dd_times mod_abs, z3, beq_self_eq_true]
    rw [loop_cons]
    simp (decide := true) only [o_v, o_non, o_bl, o_int, o_str, o_gl, o_tup, o_lstT, o_lstF, o_dct, o_bin, o_neg, o_not, o_and, o_or, o_and1, o_or1, o_and2, o_or2, o_cmp, o_cmp2, o_isn, o_notn, o_ite, o_ix, o_sl, o_fld, o_call, o_callv, o_bi, o_mt, o_isi, o_lc, o_nil, o_cons, o_pnil, o_pcons, o_part0, o_part1, o_T, o_ifs0, o_ifs1, o_tg, o_tgT, o_tgI, o_tgF, o_tgn, o_tgc, o_I, o_rng1, o_rng2, o_enum, o_zip, o_items, o_vals, o_ssn, o_ssc, th_nx, th_bk, th_ct, th_rt, th_rs, rt_rt, rt_nx, rt_rs, o_ex, o_ret, o_retn, o_asg, o_par, o_augv, o_iff, o_for, o_whl, o_brk, o_cnt, o_pas, o_frz, OO_some, OO_none, Ok_ok, sv0, svS, rdI, rdB, rdS, rdT, rdL, rdD, rdN, rdO, rdF, p_add, p_sub, p_mul, p_fdiv, p_mod, p_pow, p_addS, p_addT, p_addL, c_lt, c_le, c_gt, c_ge, c_eq, c_ne, c_in, c_nin, e_int, e_str, e_bl, t_bl, t_int, t_tup, t_lst, t_non, i_tup, i_lst, i_dS, i_dI, i_fn, s_tupl, s_lstl, n_tup, n_lst, n_dct, n_str, m_tup, m_lst, b_min, b_max, b_abs, b_all, b_any, b_sum, b_sort, isiAny, isiB, parSet, start0, Es.len, Tgs.len, List.map_cons, List.map_nil, List.length_cons, List.length_nil, List.cons_append, List.nil_append, List.replicate, List.set_cons_zero, List.set_cons_succ, Nat.reduceSub, Nat.reduceAdd, Nat.add_zero, Nat.zero_add, Nat.sub_self, Bool.not_true, Bool.not_false, if_true, if_false, Bool.true_and, Bool.and_true, Bool.false_and, Bool.and_false, Bool.not_not, Bool.false_eq_true, true_and, and_true, eq_self, rdR, rdAt, lenO, seqO, lstO, lsdO, dctO, atO, setO, frzO, b_len, b_tup, b_lstT, b_lstF, b_str, mo_app, mo_pop, mo_get, mo_join, a_app, a_pop, a_get, a_get2, a_join, z_set, f_frz, d_disp, d_dispT, q_last, q_set, k_str, k_int, l_nil, l_str, l_int, w_nil, w_str, w_int, dput, dmerge, dOf, intsOf, boolsOf, Option.map_some, Option.getD_some, Option.getD_none, Option.isSome_some, Option.isSome_none, fits_le, fits_lt, fits_s, body_for, ln_nx, ln_ct, ln_bk, ln_rt, ln_rs, Nat.reduceLeDiff, Nat.reduceLT, Nat.reduceMul, Int.reduceLT, Int.reduceLE, Int.reduceAdd, Int.reduceSub, Int.reduceMul, Int.reduceNeg, Int.reducePow, Int.reduceBEq, Int.reduceBNe, Int.reduceToNat, Nat.reduceEqDiff, Int.reduceEq, decide_true, decide_false, ite_true, ite_false, reduceIte, reduceCtorEq, body_lc, wipeE, e_lstn, e_tupn, e_is, e_si, eo_cc, eo_int, eo_str, eo_bl, eo_nn, eo_nc, eo_cn, bothB_some, at0, at1, at2, DL.i_str, DL.s_str, DL.t_str, DL.in_str, DL.in_tup, DL.in_lst, DL.in_dS, DL.in_dI, DL.orB_some, DL.in_nil, DL.in_cons, DL.in_c1, o_kget, k_str1, Int.reduceDiv, Int.reduceMod, lb_least, pt_no (w := "least") rfl, dd_least, z4, beq_self_eq_true]
    rw [loop_cons]
    simp (decide := true) only [o_v, o_non, o_bl, o_int, o_str, o_gl, o_tup, o_lstT, o_lstF, o_dct, o_bin, o_neg, o_not, o_and, o_or, o_and1, o_or1, o_and2, o_or2, o_cmp, o_cmp2, o_isn, o_notn, o_ite, o_ix, o_sl, o_fld, o_call, o_callv, o_bi, o_mt, o_isi, o_lc, o_nil, o_cons, o_pnil, o_pcons, o_part0, o_part1, o_T, o_ifs0, o_ifs1, o_tg, o_tgT, o_tgI, o_tgF, o_tgn, o_tgc, o_I, o_rng1, o_rng2, o_enum, o_zip, o_items, o_vals, o_ssn, o_ssc, th_nx, th_bk, th_ct, th_rt, th_rs, rt_rt, rt_nx, rt_rs, o_ex, o_ret, o_retn, o_asg, o_par, o_augv, o_iff, o_for, o_whl, o_brk, o_cnt, o_pas, o_frz, OO_some, OO_none, Ok_ok, sv0, svS, rdI, rdB, rdS, rdT, rdL, rdD, rdN, rdO, rdF, p_add, p_sub, p_mul, p_fdiv, p_mod, p_pow, p_addS, p_addT, p_addL, c_lt, c_le, c_gt, c_ge, c_eq, c_ne, c_in, c_nin, e_int, e_str, e_bl, t_bl, t_int, t_tup, t_lst, t_non, i_tup, i_lst, i_dS, i_dI, i_fn, s_tupl, s_lstl, n_tup, n_lst, n_dct, n_str, m_tup, m_lst, b_min, b_max, b_abs, b_all, b_any, b_sum, b_sort, isiAny, isiB, parSet, start0, Es.len, Tgs.len, List.map_cons, List.map_nil, List.length_cons, List.length_nil, List.cons_append, List.nil_append, List.replicate, List.set_cons_zero, List.set_cons_succ, Nat.reduceSub, Nat.reduceAdd, Nat.add_zero, Nat.zero_add, Nat.sub_self, Bool.not_true, Bool.not_false, if_true, if_false, Bool.true_and, Bool.and_true, Bool.false_and, Bool.and_false, Bool.not_not, Bool.false_eq_true, true_and, and_true, eq_self, rdR, rdAt, lenO, seqO, lstO, lsdO, dctO, atO, setO, frzO, b_len, b_tup, b_lstT, b_lstF, b_str, mo_app, mo_pop, mo_get, mo_join, a_app, a_pop, a_get, a_get2, a_join, z_set, f_frz, d_disp, d_dispT, q_last, q_set, k_str, k_int, l_nil, l_str, l_int, w_nil, w_str, w_int, dput, dmerge, dOf, intsOf, boolsOf, Option.map_some, Option.getD_some, Option.getD_none, Option.isSome_some, Option.isSome_none, fits_le, fits_lt, fits_s, body_for, ln_nx, ln_ct, ln_bk, ln_rt, ln_rs, Nat.reduceLeDiff, Nat.reduceLT, Nat.reduceMul, Int.reduceLT, Int.reduceLE, Int.reduceAdd, Int.reduceSub, Int.reduceMul, Int.reduceNeg, Int.reducePow, Int.reduceBEq, Int.reduceBNe, Int.reduceToNat, Nat.reduceEqDiff, Int.reduceEq, decide_true, decide_false, ite_true, ite_false, reduceIte, reduceCtorEq, body_lc, wipeE, e_lstn, e_tupn, e_is, e_si, eo_cc, eo_int, eo_str, eo_bl, eo_nn, eo_nc, eo_cn, bothB_some, at0, at1, at2, DL.i_str, DL.s_str, DL.t_str, DL.in_str, DL.in_tup, DL.in_lst, DL.in_dS, DL.in_dI, DL.orB_some, DL.in_nil, DL.in_cons, DL.in_c1, o_kget, k_str1, Int.reduceDiv, Int.reduceMod, lb_greatest, pt_no (w := "greatest") rfl, dd_greatest, z5, beq_self_eq_true]
    rw [loop_nil]
    simp (decide := true) only [o_v, o_non, o_bl, o_int, o_str, o_gl, o_tup, o_lstT, o_lstF, o_dct, o_bin, o_neg, o_not, o_and, o_or, o_and1, o_or1, o_and2, o_or2, o_cmp, o_cmp2, o_isn, o_notn, o_ite, o_ix, o_sl, o_fld, o_call, o_callv, o_bi, o_mt, o_isi, o_lc, o_nil, o_cons, o_pnil, o_pcons, o_part0, o_part1, o_T, o_ifs0, o_ifs1, o_tg, o_tgT, o_tgI, o_tgF, o_tgn, o_tgc, o_I, o_rng1, o_rng2, o_enum, o_zip, o_items, o_vals, o_ssn, o_ssc, th_nx, th_bk, th_ct, th_rt, th_rs, rt_rt, rt_nx, rt_rs, o_ex, o_ret, o_retn, o_asg, o_par, o_augv, o_iff, o_for, o_whl, o_brk, o_cnt, o_pas, o_frz, OO_some, OO_none, Ok_ok, sv0, svS, rdI, rdB, rdS, rdT, rdL, rdD, rdN, rdO, rdF, p_add, p_sub, p_mul, p_fdiv, p_mod, p_pow, p_addS, p_addT, p_addL, c_lt, c_le, c_gt, c_ge, c_eq, c_ne, c_in, c_nin, e_int, e_str, e_bl, t_bl, t_int, t_tup, t_lst, t_non, i_tup, i_lst, i_dS, i_dI, i_fn, s_tupl, s_lstl, n_tup, n_lst, n_dct, n_str, m_tup, m_lst, b_min, b_max, b_abs, b_all, b_any, b_sum, b_sort, isiAny, isiB, parSet, start0, Es.len, Tgs.len, List.map_cons, List.map_nil, List.length_cons, List.length_nil, List.cons_append, List.nil_append, List.replicate, List.set_cons_zero, List.set_cons_succ, Nat.reduceSub, Nat.reduceAdd, Nat.add_zero, Nat.zero_add, Nat.sub_self, Bool.not_true, Bool.not_false, if_true, if_false, Bool.true_and, Bool.and_true, Bool.false_and, Bool.and_false, Bool.not_not, Bool.false_eq_true, true_and, and_true, eq_self, rdR, rdAt, lenO, seqO, lstO, lsdO, dctO, atO, setO, frzO, b_len, b_tup, b_lstT, b_lstF, b_str, mo_app, mo_pop, mo_get, mo_join, a_app, a_pop, a_get, a_get2, a_join, z_set, f_frz, d_disp, d_dispT, q_last, q_set, k_str, k_int, l_nil, l_str, l_int, w_nil, w_str, w_int, dput, dmerge, dOf, intsOf, boolsOf, Option.map_some, Option.getD_some, Option.getD_none, Option.isSome_some, Option.isSome_none, fits_le, fits_lt, fits_s, body_for, ln_nx, ln_ct, ln_bk, ln_rt, ln_rs, Nat.reduceLeDiff, Nat.reduceLT, Nat.reduceMul, Int.reduceLT, Int.reduceLE, Int.reduceAdd, Int.reduceSub, Int.reduceMul, Int.reduceNeg, Int.reducePow, Int.reduceBEq, Int.reduceBNe, Int.reduceToNat, Nat.reduceEqDiff, Int.reduceEq, decide_true, decide_false, ite_true, ite_false, reduceIte, reduceCtorEq, body_lc, wipeE, e_lstn, e_tupn, e_is, e_si, eo_cc, eo_int, eo_str, eo_bl, eo_nn, eo_nc, eo_cn, bothB_some, at0, at1, at2, DL.i_str, DL.s_str, DL.t_str, DL.in_str, DL.in_tup, DL.in_lst, DL.in_dS, DL.in_dI, DL.orB_some, DL.in_nil, DL.in_cons, DL.in_c1, o_kget, k_str1, Int.reduceDiv, Int.reduceMod]
    refine lc_keep (fun _ => some (.bl true)) (fits (by simp)) ?_ ?_
    · intro d g' Q hd hK hQ
      simp only [List.mem_cons, List.not_mem_nil, or_false] at hd
      rcases hd with rfl | rfl
      · simp (decide := true) only [o_v, o_non, o_bl, o_int, o_str, o_gl, o_tup, o_lstT, o_lstF, o_dct, o_bin, o_neg, o_not, o_and, o_or, o_and1, o_or1, o_and2, o_or2, o_cmp, o_cmp2, o_isn, o_notn, o_ite, o_ix, o_sl, o_fld, o_call, o_callv, o_bi, o_mt, o_isi, o_lc, o_nil, o_cons, o_pnil, o_pcons, o_part0, o_part1, o_T, o_ifs0, o_ifs1, o_tg, o_tgT, o_tgI, o_tgF, o_tgn, o_tgc, o_I, o_rng1, o_rng2, o_enum, o_zip, o_items, o_vals, o_ssn, o_ssc, th_nx, th_bk, th_ct, th_rt, th_rs, rt_rt, rt_nx, rt_rs, o_ex, o_ret, o_retn, o_asg, o_par, o_augv, o_iff, o_for, o_whl, o_brk, o_cnt, o_pas, o_frz, OO_some, OO_none, Ok_ok, sv0, svS, rdI, rdB, rdS, rdT, rdL, rdD, rdN, rdO, rdF, p_add, p_sub, p_mul, p_fdiv, p_mod, p_pow, p_addS, p_addT, p_addL, c_lt, c_le, c_gt, c_ge, c_eq, c_ne, c_in, c_nin, e_int, e_str, e_bl, t_bl, t_int, t_tup, t_lst, t_non, i_tup, i_lst, i_dS, i_dI, i_fn, s_tupl, s_lstl, n_tup, n_lst, n_dct, n_str, m_tup, m_lst, b_min, b_max, b_abs, b_all, b_any, b_sum, b_sort, isiAny, isiB, parSet, start0, Es.len, Tgs.len, List.map_cons, List.map_nil, List.length_cons, List.length_nil, List.cons_append, List.nil_append, List.replicate, List.set_cons_zero, List.set_cons_succ, Nat.reduceSub, Nat.reduceAdd, Nat.add_zero, Nat.zero_add, Nat.sub_self, Bool.not_true, Bool.not_false, if_true, if_false, Bool.true_and, Bool.and_true, Bool.false_and, Bool.and_false, Bool.not_not, Bool.false_eq_true, true_and, and_true, eq_self, rdR, rdAt, lenO, seqO, lstO, lsdO, dctO, atO, setO, frzO, b_len, b_tup, b_lstT, b_lstF, b_str, mo_app, mo_pop, mo_get, mo_join, a_app, a_pop, a_get, a_get2, a_join, z_set, f_frz, d_disp, d_dispT, q_last, q_set, k_str, k_int, l_nil, l_str, l_int, w_nil, w_str, w_int, dput, dmerge, dOf, intsOf, boolsOf, Option.map_some, Option.getD_some, Option.getD_none, Option.isSome_some, Option.isSome_none, fits_le, fits_lt, fits_s, body_for, ln_nx, ln_ct, ln_bk, ln_rt, ln_rs, Nat.reduceLeDiff, Nat.reduceLT, Nat.reduceMul, Int.reduceLT, Int.reduceLE, Int.reduceAdd, Int.reduceSub, Int.reduceMul, Int.reduceNeg, Int.reducePow, Int.reduceBEq, Int.reduceBNe, Int.reduceToNat, Nat.reduceEqDiff, Int.reduceEq, decide_true, decide_false, ite_true, ite_false, reduceIte, reduceCtorEq, body_lc, wipeE, e_lstn, e_tupn, e_is, e_si, eo_cc, eo_int, eo_str, eo_bl, eo_nn, eo_nc, eo_cn, bothB_some, at0, at1, at2, DL.i_str, DL.s_str, DL.t_str, DL.in_str, DL.in_tup, DL.in_lst, DL.in_dS, DL.in_dI, DL.orB_some, DL.in_nil, DL.in_cons, DL.in_c1, o_kget, k_str1, Int.reduceDiv, Int.reduceMod, dd_mean, ld_mean, beq_self_eq_true]
        exact hQ _ .rfl'
      · simp (decide := true) only [o_v, o_non, o_bl, o_int, o_str, o_gl, o_tup, o_lstT, o_lstF, o_dct, o_bin, o_neg, o_not, o_and, o_or, o_and1, o_or1, o_and2, o_or2, o_cmp, o_cmp2, o_isn, o_notn, o_ite, o_ix, o_sl, o_fld, o_call, o_callv, o_bi, o_mt, o_isi, o_lc, o_nil, o_cons, o_pnil, o_pcons, o_part0, o_part1, o_T, o_ifs0, o_ifs1, o_tg, o_tgT, o_tgI, o_tgF, o_tgn, o_tgc, o_I, o_rng1, o_rng2, o_enum, o_zip, o_items, o_vals, o_ssn, o_ssc, th_nx, th_bk, th_ct, th_rt, th_rs, rt_rt, rt_nx, rt_rs, o_ex, o_ret, o_retn, o_asg, o_par, o_augv, o_iff, o_for, o_whl, o_brk, o_cnt, o_pas, o_frz, OO_some, OO_none, Ok_ok, sv0, svS, rdI, rdB, rdS, rdT, rdL, rdD, rdN, rdO, rdF, p_add, p_sub, p_mul, p_fdiv, p_mod, p_pow, p_addS, p_addT, p_addL, c_lt, c_le, c_gt, c_ge, c_eq, c_ne, c_in, c_nin, e_int, e_str, e_bl, t_bl, t_int, t_tup, t_lst, t_non, i_tup, i_lst, i_dS, i_dI, i_fn, s_tupl, s_lstl, n_tup, n_lst, n_dct, n_str, m_tup, m_lst, b_min, b_max, b_abs, b_all, b_any, b_sum, b_sort, isiAny, isiB, parSet, start0, Es.len, Tgs.len, List.map_cons, List.map_nil, List.length_cons, List.length_nil, List.cons_append, List.nil_append, List.replicate, List.set_cons_zero, List.set_cons_succ, Nat.reduceSub, Nat.reduceAdd, Nat.add_zero, Nat.zero_add, Nat.sub_self, Bool.not_true, Bool.not_false, if_true, if_false, Bool.true_and, Bool.and_true, Bool.false_and, Bool.and_false, Bool.not_not, Bool.false_eq_true, true_and, and_true, eq_self, rdR, rdAt, lenO, seqO, lstO, lsdO, dctO, atO, setO, frzO, b_len, b_tup, b_lstT, b_lstF, b_str, mo_app, mo_pop, mo_get, mo_join, a_app, a_pop, a_get, a_get2, a_join, z_set, f_frz, d_disp, d_dispT, q_last, q_set, k_str, k_int, l_nil, l_str, l_int, w_nil, w_str, w_int, dput, dmerge, dOf, intsOf, boolsOf, Option.map_some, Option.getD_some, Option.getD_none, Option.isSome_some, Option.isSome_none, fits_le, fits_lt, fits_s, body_for, ln_nx, ln_ct, ln_bk, ln_rt, ln_rs, Nat.reduceLeDiff, Nat.reduceLT, Nat.reduceMul, Int.reduceLT, Int.reduceLE, Int.reduceAdd, Int.reduceSub, Int.reduceMul, Int.reduceNeg, Int.reducePow, Int.reduceBEq, Int.reduceBNe, Int.reduceToNat, Nat.reduceEqDiff, Int.reduceEq, decide_true, decide_false, ite_true, ite_false, reduceIte, reduceCtorEq, body_lc, wipeE, e_lstn, e_tupn, e_is, e_si, eo_cc, eo_int, eo_str, eo_bl, eo_nn, eo_nc, eo_cn, bothB_some, at0, at1, at2, DL.i_str, DL.s_str, DL.t_str, DL.in_str, DL.in_tup, DL.in_lst, DL.in_dS, DL.in_dI, DL.orB_some, DL.in_nil, DL.in_cons, DL.in_c1, o_kget, k_str1, Int.reduceDiv, Int.reduceMod, dd_shift, ld_shift hxa, beq_self_eq_true]
        exact hQ _ .app
    · intro g' hK
      simp (decide := true) only [o_v, o_non, o_bl, o_int, o_str, o_gl, o_tup, o_lstT, o_lstF, o_dct, o_bin, o_neg, o_not, o_and, o_or, o_and1, o_or1, o_and2, o_or2, o_cmp, o_cmp2, o_isn, o_notn, o_ite, o_ix, o_sl, o_fld, o_call, o_callv, o_bi, o_mt, o_isi, o_lc, o_nil, o_cons, o_pnil, o_pcons, o_part0, o_part1, o_T, o_ifs0, o_ifs1, o_tg, o_tgT, o_tgI, o_tgF, o_tgn, o_tgc, o_I, o_rng1, o_rng2, o_enum, o_zip, o_items, o_vals, o_ssn, o_ssc, th_nx, th_bk, th_ct, th_rt, th_rs, rt_rt, rt_nx, rt_rs, o_ex, o_ret, o_retn, o_asg, o_par, o_augv, o_iff, o_for, o_whl, o_brk, o_cnt, o_pas, o_frz, OO_some, OO_none, Ok_ok, sv0, svS, rdI, rdB, rdS, rdT, rdL, rdD, rdN, rdO, rdF, p_add, p_sub, p_mul, p_fdiv, p_mod, p_pow, p_addS, p_addT, p_addL, c_lt, c_le, c_gt, c_ge, c_eq, c_ne, c_in, c_nin, e_int, e_str, e_bl, t_bl, t_int, t_tup, t_lst, t_non, i_tup, i_lst, i_dS, i_dI, i_fn, s_tupl, s_lstl, n_tup, n_lst, n_dct, n_str, m_tup, m_lst, b_min, b_max, b_abs, b_all, b_any, b_sum, b_sort, isiAny, isiB, parSet, start0, Es.len, Tgs.len, List.map_cons, List.map_nil, List.length_cons, List.length_nil, List.cons_append, List.nil_append, List.replicate, List.set_cons_zero, List.set_cons_succ, Nat.reduceSub, Nat.reduceAdd, Nat.add_zero, Nat.zero_add, Nat.sub_self, Bool.not_true, Bool.not_false, if_true, if_false, Bool.true_and, Bool.and_true, Bool.false_and, Bool.and_false, Bool.not_not, Bool.false_eq_true, true_and, and_true, eq_self, rdR, rdAt, lenO, seqO, lstO, lsdO, dctO, atO, setO, frzO, b_len, b_tup, b_lstT, b_lstF, b_str, mo_app, mo_pop, mo_get, mo_join, a_app, a_pop, a_get, a_get2, a_join, z_set, f_frz, d_disp, d_dispT, q_last, q_set, k_str, k_int, l_nil, l_str, l_int, w_nil, w_str, w_int, dput, dmerge, dOf, intsOf, boolsOf, Option.map_some, Option.getD_some, Option.getD_none, Option.isSome_some, Option.isSome_none, fits_le, fits_lt, fits_s, body_for, ln_nx, ln_ct, ln_bk, ln_rt, ln_rs, Nat.reduceLeDiff, Nat.reduceLT, Nat.reduceMul, Int.reduceLT, Int.reduceLE, Int.reduceAdd, Int.reduceSub, Int.reduceMul, Int.reduceNeg, Int.reducePow, Int.reduceBEq, Int.reduceBNe, Int.reduceToNat, Nat.reduceEqDiff, Int.reduceEq, decide_true, decide_false, ite_true, ite_false, reduceIte, reduceCtorEq, body_lc, wipeE, e_lstn, e_tupn, e_is, e_si, eo_cc, eo_int, eo_str, eo_bl, eo_nn, eo_nc, eo_cn, bothB_some, at0, at1, at2, DL.i_str, DL.s_str, DL.t_str, DL.in_str, DL.in_tup, DL.in_lst, DL.in_dS, DL.in_dI, DL.orB_some, DL.in_nil, DL.in_cons, DL.in_c1, o_kget, k_str1, Int.reduceDiv, Int.reduceMod, List.filterMap_cons, List.filterMap_nil, List.all_cons, List.all_nil, id]
      exact hq _
end
theorem law_ok : ∀ ns : List Int, ns.length ≤ 63 → (∀ k ∈ ns, Builtin.Int.intBits k ≤ 1048576) → ∃ g', (cfN md.tb 8).call "law" [.lst (ns.map D.int)] [] = .ok (.bl true) g' := by
  intro ns hl _
  have key : Ok ((cfN md.tb 8).call "law" [.lst (ns.map D.int)] []) (fun d _ => d = .bl true) Never := by
    rw [call_def D_law rfl]
    simp only [d_law, o_v, o_non, o_bl, o_int, o_str, o_gl, o_tup, o_lstT, o_lstF, o_dct, o_bin, o_neg, o_not, o_and, o_or, o_and1, o_or1, o_and2, o_or2, o_cmp, o_cmp2, o_isn, o_notn, o_ite, o_ix, o_sl, o_fld, o_call, o_callv, o_bi, o_mt, o_isi, o_lc, o_nil, o_cons, o_pnil, o_pcons, o_part0, o_part1, o_T, o_ifs0, o_ifs1, o_tg, o_tgT, o_tgI, o_tgF, o_tgn, o_tgc, o_I, o_rng1, o_rng2, o_enum, o_zip, o_items, o_vals, o_ssn, o_ssc, th_nx, th_bk, th_ct, th_rt, th_rs, rt_rt, rt_nx, rt_rs, o_ex, o_ret, o_retn, o_asg, o_par, o_augv, o_iff, o_for, o_whl, o_brk, o_cnt, o_pas, o_frz, OO_some, OO_none, Ok_ok, sv0, svS, rdI, rdB, rdS, rdT, rdL, rdD, rdN, rdO, rdF, p_add, p_sub, p_mul, p_fdiv, p_mod, p_pow, p_addS, p_addT, p_addL, c_lt, c_le, c_gt, c_ge, c_eq, c_ne, c_in, c_nin, e_int, e_str, e_bl, t_bl, t_int, t_tup, t_lst, t_non, i_tup, i_lst, i_dS, i_dI, i_fn, s_tupl, s_lstl, n_tup, n_lst, n_dct, n_str, m_tup, m_lst, b_min, b_max, b_abs, b_all, b_any, b_sum, b_sort, isiAny, isiB, parSet, start0, Es.len, Tgs.len, List.map_cons, List.map_nil, List.length_cons, List.length_nil, List.cons_append, List.nil_append, List.replicate, List.set_cons_zero, List.set_cons_succ, Nat.reduceSub, Nat.reduceAdd, Nat.add_zero, Nat.zero_add, Nat.sub_self, Bool.not_true, Bool.not_false, if_true, if_false, Bool.true_and, Bool.and_true, Bool.false_and, Bool.and_false, Bool.not_not, Bool.false_eq_true, true_and, and_true, eq_self, rdR, rdAt, lenO, seqO, lstO, lsdO, dctO, atO, setO, frzO, b_len, b_tup, b_lstT, b_lstF, b_str, mo_app, mo_pop, mo_get, mo_join, a_app, a_pop, a_get, a_get2, a_join, z_set, f_frz, d_disp, d_dispT, q_last, q_set, k_str, k_int, l_nil, l_str, l_int, w_nil, w_str, w_int, dput, dmerge, dOf, intsOf, boolsOf, Option.map_some, Option.getD_some, Option.getD_none, Option.isSome_some, Option.isSome_none, fits_le, fits_lt, fits_s, body_for, ln_nx, ln_ct, ln_bk, ln_rt, ln_rs, Nat.reduceLeDiff, Nat.reduceLT, Nat.reduceMul, Int.reduceLT, Int.reduceLE, Int.reduceAdd, Int.reduceSub, Int.reduceMul, Int.reduceNeg, Int.reducePow, Int.reduceBEq, Int.reduceBNe, Int.reduceToNat, Nat.reduceEqDiff, Int.reduceEq, decide_true, decide_false, ite_true, ite_false, reduceIte, reduceCtorEq, body_lc, wipeE, e_lstn, e_tupn, e_is, e_si, eo_cc, eo_int, eo_str, eo_bl, eo_nn, eo_nc, eo_cn, bothB_some, at0, at1, at2, DL.i_str, DL.s_str, DL.t_str, DL.in_str, DL.in_tup, DL.in_lst, DL.in_dS, DL.in_dI, DL.orB_some, DL.in_nil, DL.in_cons, DL.in_c1, o_kget, k_str1, Int.reduceDiv, Int.reduceMod]
    refine ⟨fits (by simp only [List.length_map]; omega), ?_⟩
    refine loop_fix (fun i ρ g => ∃ x y, ρ = [some (.lst (ns.map .int)), x, y]) ⟨_, _, rfl⟩ ?_ ?_
    · rintro i d ρ g hd ⟨x, y, rfl⟩
      obtain ⟨c, rfl, hi⟩ := cells hl hd
      simp only [o_v, o_non, o_bl, o_int, o_str, o_gl, o_tup, o_lstT, o_lstF, o_dct, o_bin, o_neg, o_not, o_and, o_or, o_and1, o_or1, o_and2, o_or2, o_cmp, o_cmp2, o_isn, o_notn, o_ite, o_ix, o_sl, o_fld, o_call, o_callv, o_bi, o_mt, o_isi, o_lc, o_nil, o_cons, o_pnil, o_pcons, o_part0, o_part1, o_T, o_ifs0, o_ifs1, o_tg, o_tgT, o_tgI, o_tgF, o_tgn, o_tgc, o_I, o_rng1, o_rng2, o_enum, o_zip, o_items, o_vals, o_ssn, o_ssc, th_nx, th_bk, th_ct, th_rt, th_rs, rt_rt, rt_nx, rt_rs, o_ex, o_ret, o_retn, o_asg, o_par, o_augv, o_iff, o_for, o_whl, o_brk, o_cnt, o_pas, o_frz, OO_some, OO_none, Ok_ok, sv0, svS, rdI, rdB, rdS, rdT, rdL, rdD, rdN, rdO, rdF, p_add, p_sub, p_mul, p_fdiv, p_mod, p_pow, p_addS, p_addT, p_addL, c_lt, c_le, c_gt, c_ge, c_eq, c_ne, c_in, c_nin, e_int, e_str, e_bl, t_bl, t_int, t_tup, t_lst, t_non, i_tup, i_lst, i_dS, i_dI, i_fn, s_tupl, s_lstl, n_tup, n_lst, n_dct, n_str, m_tup, m_lst, b_min, b_max, b_abs, b_all, b_any, b_sum, b_sort, isiAny, isiB, parSet, start0, Es.len, Tgs.len, List.map_cons, List.map_nil, List.length_cons, List.length_nil, List.cons_append, List.nil_append, List.replicate, List.set_cons_zero, List.set_cons_succ, Nat.reduceSub, Nat.reduceAdd, Nat.add_zero, Nat.zero_add, Nat.sub_self, Bool.not_true, Bool.not_false, if_true, if_false, Bool.true_and, Bool.and_true, Bool.false_and, Bool.and_false, Bool.not_not, Bool.false_eq_true, true_and, and_true, eq_self, rdR, rdAt, lenO, seqO, lstO, lsdO, dctO, atO, setO, frzO, b_len, b_tup, b_lstT, b_lstF, b_str, mo_app, mo_pop, mo_get, mo_join, a_app, a_pop, a_get, a_get2, a_join, z_set, f_frz, d_disp, d_dispT, q_last, q_set, k_str, k_int, l_nil, l_str, l_int, w_nil, w_str, w_int, dput, dmerge, dOf, intsOf, boolsOf, Option.map_some, Option.getD_some, Option.getD_none, Option.isSome_some, Option.isSome_none, fits_le, fits_lt, fits_s, body_for, ln_nx, ln_ct, ln_bk, ln_rt, ln_rs, Nat.reduceLeDiff, Nat.reduceLT, Nat.reduceMul, Int.reduceLT, Int.reduceLE, Int.reduceAdd, Int.reduceSub, Int.reduceMul, Int.reduceNeg, Int.reducePow, Int.reduceBEq, Int.reduceBNe, Int.reduceToNat, Nat.reduceEqDiff, Int.reduceEq, decide_true, decide_false, ite_true, ite_false, reduceIte, reduceCtorEq, body_lc, wipeE, e_lstn, e_tupn, e_is, e_si, eo_cc, eo_int, eo_str, eo_bl, eo_nn, eo_nc, eo_cn, bothB_some, at0, at1, at2, DL.i_str, DL.s_str, DL.t_str, DL.in_str, DL.in_tup, DL.in_lst, DL.in_dS, DL.in_dI, DL.orB_some, DL.in_nil, DL.in_cons, DL.in_c1, o_kget, k_str1, Int.reduceDiv, Int.reduceMod]
      refine sp_right (by omega) (by omega) fun g' => ?_
      simp only [o_v, o_non, o_bl, o_int, o_str, o_gl, o_tup, o_lstT, o_lstF, o_dct, o_bin, o_neg, o_not, o_and, o_or, o_and1, o_or1, o_and2, o_or2, o_cmp, o_cmp2, o_isn, o_notn, o_ite, o_ix, o_sl, o_fld, o_call, o_callv, o_bi, o_mt, o_isi, o_lc, o_nil, o_cons, o_pnil, o_pcons, o_part0, o_part1, o_T, o_ifs0, o_ifs1, o_tg, o_tgT, o_tgI, o_tgF, o_tgn, o_tgc, o_I, o_rng1, o_rng2, o_enum, o_zip, o_items, o_vals, o_ssn, o_ssc, th_nx, th_bk, th_ct, th_rt, th_rs, rt_rt, rt_nx, rt_rs, o_ex, o_ret, o_retn, o_asg, o_par, o_augv, o_iff, o_for, o_whl, o_brk, o_cnt, o_pas, o_frz, OO_some, OO_none, Ok_ok, sv0, svS, rdI, rdB, rdS, rdT, rdL, rdD, rdN, rdO, rdF, p_add, p_sub, p_mul, p_fdiv, p_mod, p_pow, p_addS, p_addT, p_addL, c_lt, c_le, c_gt, c_ge, c_eq, c_ne, c_in, c_nin, e_int, e_str, e_bl, t_bl, t_int, t_tup, t_lst, t_non, i_tup, i_lst, i_dS, i_dI, i_fn, s_tupl, s_lstl, n_tup, n_lst, n_dct, n_str, m_tup, m_lst, b_min, b_max, b_abs, b_all, b_any, b_sum, b_sort, isiAny, isiB, parSet, start0, Es.len, Tgs.len, List.map_cons, List.map_nil, List.length_cons, List.length_nil, List.cons_append, List.nil_append, List.replicate, List.set_cons_zero, List.set_cons_succ, Nat.reduceSub, Nat.reduceAdd, Nat.add_zero, Nat.zero_add, Nat.sub_self, Bool.not_true, Bool.not_false, if_true, if_false, Bool.true_and, Bool.and_true, Bool.false_and, Bool.and_false, Bool.not_not, Bool.false_eq_true, true_and, and_true, eq_self, rdR, rdAt, lenO, seqO, lstO, lsdO, dctO, atO, setO, frzO, b_len, b_tup, b_lstT, b_lstF, b_str, mo_app, mo_pop, mo_get, mo_join, a_app, a_pop, a_get, a_get2, a_join, z_set, f_frz, d_disp, d_dispT, q_last, q_set, k_str, k_int, l_nil, l_str, l_int, w_nil, w_str, w_int, dput, dmerge, dOf, intsOf, boolsOf, Option.map_some, Option.getD_some, Option.getD_none, Option.isSome_some, Option.isSome_none, fits_le, fits_lt, fits_s, body_for, ln_nx, ln_ct, ln_bk, ln_rt, ln_rs, Nat.reduceLeDiff, Nat.reduceLT, Nat.reduceMul, Int.reduceLT, Int.reduceLE, Int.reduceAdd, Int.reduceSub, Int.reduceMul, Int.reduceNeg, Int.reducePow, Int.reduceBEq, Int.reduceBNe, Int.reduceToNat, Nat.reduceEqDiff, Int.reduceEq, decide_true, decide_false, ite_true, ite_false, reduceIte, reduceCtorEq, body_lc, wipeE, e_lstn, e_tupn, e_is, e_si, eo_cc, eo_int, eo_str, eo_bl, eo_nn, eo_nc, eo_cn, bothB_some, at0, at1, at2, DL.i_str, DL.s_str, DL.t_str, DL.in_str, DL.in_tup, DL.in_lst, DL.in_dS, DL.in_dI, DL.orB_some, DL.in_nil, DL.in_cons, DL.in_c1, o_kget, k_str1, Int.reduceDiv, Int.reduceMod]
      exact ⟨_, _, rfl⟩
    · rintro ρ g ⟨x, y, rfl⟩
      simp (decide := true) only [o_v, o_non, o_bl, o_int, o_str, o_gl, o_tup, o_lstT, o_lstF, o_dct, o_bin, o_neg, o_not, o_and, o_or, o_and1, o_or1, o_and2, o_or2, o_cmp, o_cmp2, o_isn, o_notn, o_ite, o_ix, o_sl, o_fld, o_call, o_callv, o_bi, o_mt, o_isi, o_lc, o_nil, o_cons, o_pnil, o_pcons, o_part0, o_part1, o_T, o_ifs0, o_ifs1, o_tg, o_tgT, o_tgI, o_tgF, o_tgn, o_tgc, o_I, o_rng1, o_rng2, o_enum, o_zip, o_items, o_vals, o_ssn, o_ssc, th_nx, th_bk, th_ct, th_rt, th_rs, rt_rt, rt_nx, rt_rs, o_ex, o_ret, o_retn, o_asg, o_par, o_augv, o_iff, o_for, o_whl, o_brk, o_cnt, o_pas, o_frz, OO_some, OO_none, Ok_ok, sv0, svS, rdI, rdB, rdS, rdT, rdL, rdD, rdN, rdO, rdF, p_add, p_sub, p_mul, p_fdiv, p_mod, p_pow, p_addS, p_addT, p_addL, c_lt, c_le, c_gt, c_ge, c_eq, c_ne, c_in, c_nin, e_int, e_str, e_bl, t_bl, t_int, t_tup, t_lst, t_non, i_tup, i_lst, i_dS, i_dI, i_fn, s_tupl, s_lstl, n_tup, n_lst, n_dct, n_str, m_tup, m_lst, b_min, b_max, b_abs, b_all, b_any, b_sum, b_sort, isiAny, isiB, parSet, start0, Es.len, Tgs.len, List.map_cons, List.map_nil, List.length_cons, List.length_nil, List.cons_append, List.nil_append, List.replicate, List.set_cons_zero, List.set_cons_succ, Nat.reduceSub, Nat.reduceAdd, Nat.add_zero, Nat.zero_add, Nat.sub_self, Bool.not_true, Bool.not_false, if_true, if_false, Bool.true_and, Bool.and_true, Bool.false_and, Bool.and_false, Bool.not_not, Bool.false_eq_true, true_and, and_true, eq_self, rdR, rdAt, lenO, seqO, lstO, lsdO, dctO, atO, setO, frzO, b_len, b_tup, b_lstT, b_lstF, b_str, mo_app, mo_pop, mo_get, mo_join, a_app, a_pop, a_get, a_get2, a_join, z_set, f_frz, d_disp, d_dispT, q_last, q_set, k_str, k_int, l_nil, l_str, l_int, w_nil, w_str, w_int, dput, dmerge, dOf, intsOf, boolsOf, Option.map_some, Option.getD_some, Option.getD_none, Option.isSome_some, Option.isSome_none, fits_le, fits_lt, fits_s, body_for, ln_nx, ln_ct, ln_bk, ln_rt, ln_rs, Nat.reduceLeDiff, Nat.reduceLT, Nat.reduceMul, Int.reduceLT, Int.reduceLE, Int.reduceAdd, Int.reduceSub, Int.reduceMul, Int.reduceNeg, Int.reducePow, Int.reduceBEq, Int.reduceBNe, Int.reduceToNat, Nat.reduceEqDiff, Int.reduceEq, decide_true, decide_false, ite_true, ite_false, reduceIte, reduceCtorEq, body_lc, wipeE, e_lstn, e_tupn, e_is, e_si, eo_cc, eo_int, eo_str, eo_bl, eo_nn, eo_nc, eo_cn, bothB_some, at0, at1, at2, DL.i_str, DL.s_str, DL.t_str, DL.in_str, DL.in_tup, DL.in_lst, DL.in_dS, DL.in_dI, DL.orB_some, DL.in_nil, DL.in_cons, DL.in_c1, o_kget, k_str1, Int.reduceDiv, Int.reduceMod]
      refine part_mean fun g1 => ?_
      simp (decide := true) only [o_v, o_non, o_bl, o_int, o_str, o_gl, o_tup, o_lstT, o_lstF, o_dct, o_bin, o_neg, o_not, o_and, o_or, o_and1, o_or1, o_and2, o_or2, o_cmp, o_cmp2, o_isn, o_notn, o_ite, o_ix, o_sl, o_fld, o_call, o_callv, o_bi, o_mt, o_isi, o_lc, o_nil, o_cons, o_pnil, o_pcons, o_part0, o_part1, o_T, o_ifs0, o_ifs1, o_tg, o_tgT, o_tgI, o_tgF, o_tgn, o_tgc, o_I, o_rng1, o_rng2, o_enum, o_zip, o_items, o_vals, o_ssn, o_ssc, th_nx, th_bk, th_ct, th_rt, th_rs, rt_rt, rt_nx, rt_rs, o_ex, o_ret, o_retn, o_asg, o_par, o_augv, o_iff, o_for, o_whl, o_brk, o_cnt, o_pas, o_frz, OO_some, OO_none, Ok_ok, sv0, svS, rdI, rdB, rdS, rdT, rdL, rdD, rdN, rdO, rdF, p_add, p_sub, p_mul, p_fdiv, p_mod, p_pow, p_addS, p_addT, p_addL, c_lt, c_le, c_gt, c_ge, c_eq, c_ne, c_in, c_nin, e_int, e_str, e_bl, t_bl, t_int, t_tup, t_lst, t_non, i_tup, i_lst, i_dS, i_dI, i_fn, s_tupl, s_lstl, n_tup, n_lst, n_dct, n_str, m_tup, m_lst, b_min, b_max, b_abs, b_all, b_any, b_sum, b_sort, isiAny, isiB, parSet, start0, Es.len, Tgs.len, List.map_cons, List.map_nil, List.length_cons, List.length_nil, List.cons_append, List.nil_append, List.replicate, List.set_cons_zero, List.set_cons_succ, Nat.reduceSub, Nat.reduceAdd, Nat.add_zero, Nat.zero_add, Nat.sub_self, Bool.not_true, Bool.not_false, if_true, if_false, Bool.true_and, Bool.and_true, Bool.false_and, Bool.and_false, Bool.not_not, Bool.false_eq_true, true_and, and_true, eq_self, rdR, rdAt, lenO, seqO, lstO, lsdO, dctO, atO, setO, frzO, b_len, b_tup, b_lstT, b_lstF, b_str, mo_app, mo_pop, mo_get, mo_join, a_app, a_pop, a_get, a_get2, a_join, z_set, f_frz, d_disp, d_dispT, q_last, q_set, k_str, k_int, l_nil, l_str, l_int, w_nil, w_str, w_int, dput, dmerge, dOf, intsOf, boolsOf, Option.map_some, Option.getD_some, Option.getD_none, Option.isSome_some, Option.isSome_none, fits_le, fits_lt, fits_s, body_for, ln_nx, ln_ct, ln_bk, ln_rt, ln_rs, Nat.reduceLeDiff, Nat.reduceLT, Nat.reduceMul, Int.reduceLT, Int.reduceLE, Int.reduceAdd, Int.reduceSub, Int.reduceMul, Int.reduceNeg, Int.reducePow, Int.reduceBEq, Int.reduceBNe, Int.reduceToNat, Nat.reduceEqDiff, Int.reduceEq, decide_true, decide_false, ite_true, ite_false, reduceIte, reduceCtorEq, body_lc, wipeE, e_lstn, e_tupn, e_is, e_si, eo_cc, eo_int, eo_str, eo_bl, eo_nn, eo_nc, eo_cn, bothB_some, at0, at1, at2, DL.i_str, DL.s_str, DL.t_str, DL.in_str, DL.in_tup, DL.in_lst, DL.in_dS, DL.in_dI, DL.orB_some, DL.in_nil, DL.in_cons, DL.in_c1, o_kget, k_str1, Int.reduceDiv, Int.reduceMod]
      refine part_shift fun g1 => ?_
      simp (decide := true) only [o_v, o_non, o_bl, o_int, o_str, o_gl, o_tup, o_lstT, o_lstF, o_dct, o_bin, o_neg, o_not, o_and, o_or, o_and1, o_or1, o_and2, o_or2, o_cmp, o_cmp2, o_isn, o_notn, o_ite, o_ix, o_sl, o_fld, o_call, o_callv, o_bi, o_mt, o_isi, o_lc, o_nil, o_cons, o_pnil, o_pcons, o_part0, o_part1, o_T, o_ifs0, o_ifs1, o_tg, o_tgT, o_tgI, o_tgF, o_tgn, o_tgc, o_I, o_rng1, o_rng2, o_enum, o_zip, o_items, o_vals, o_ssn, o_ssc, th_nx, th_bk, th_ct, th_rt, th_rs, rt_rt, rt_nx, rt_rs, o_ex, o_ret, o_retn, o_asg, o_par, o_augv, o_iff, o_for, o_whl, o_brk, o_cnt, o_pas, o_frz, OO_some, OO_none, Ok_ok, sv0, svS, rdI, rdB, rdS, rdT, rdL, rdD, rdN, rdO, rdF, p_add, p_sub, p_mul, p_fdiv, p_mod, p_pow, p_addS, p_addT, p_addL, c_lt, c_le, c_gt, c_ge, c_eq, c_ne, c_in, c_nin, e_int, e_str, e_bl, t_bl, t_int, t_tup, t_lst, t_non, i_tup, i_lst, i_dS, i_dI, i_fn, s_tupl, s_lstl, n_tup, n_lst, n_dct, n_str, m_tup, m_lst, b_min, b_max, b_abs, b_all, b_any, b_sum, b_sort, isiAny, isiB, parSet, start0, Es.len, Tgs.len, List.map_cons, List.map_nil, List.length_cons, List.length_nil, List.cons_append, List.nil_append, List.replicate, List.set_cons_zero, List.set_cons_succ, Nat.reduceSub, Nat.reduceAdd, Nat.add_zero, Nat.zero_add, Nat.sub_self, Bool.not_true, Bool.not_false, if_true, if_false, Bool.true_and, Bool.and_true, Bool.false_and, Bool.and_false, Bool.not_not, Bool.false_eq_true, true_and, and_true, eq_self, rdR, rdAt, lenO, seqO, lstO, lsdO, dctO, atO, setO, frzO, b_len, b_tup, b_lstT, b_lstF, b_str, mo_app, mo_pop, mo_get, mo_join, a_app, a_pop, a_get, a_get2, a_join, z_set, f_frz, d_disp, d_dispT, q_last, q_set, k_str, k_int, l_nil, l_str, l_int, w_nil, w_str, w_int, dput, dmerge, dOf, intsOf, boolsOf, Option.map_some, Option.getD_some, Option.getD_none, Option.isSome_some, Option.isSome_none, fits_le, fits_lt, fits_s, body_for, ln_nx, ln_ct, ln_bk, ln_rt, ln_rs, Nat.reduceLeDiff, Nat.reduceLT, Nat.reduceMul, Int.reduceLT, Int.reduceLE, Int.reduceAdd, Int.reduceSub, Int.reduceMul, Int.reduceNeg, Int.reducePow, Int.reduceBEq, Int.reduceBNe, Int.reduceToNat, Nat.reduceEqDiff, Int.reduceEq, decide_true, decide_false, ite_true, ite_false, reduceIte, reduceCtorEq, body_lc, wipeE, e_lstn, e_tupn, e_is, e_si, eo_cc, eo_int, eo_str, eo_bl, eo_nn, eo_nc, eo_cn, bothB_some, at0, at1, at2, DL.i_str, DL.s_str, DL.t_str, DL.in_str, DL.in_tup, DL.in_lst, DL.in_dS, DL.in_dI, DL.orB_some, DL.in_nil, DL.in_cons, DL.in_c1, o_kget, k_str1, Int.reduceDiv, Int.reduceMod]
  obtain ⟨d, g', e, rfl⟩ := key.get
  exact ⟨g', e⟩

end K34
open PySem PySem.W PySem.Calls PyProof.Rows
theorem PySem.Challenge.cw_roundweave_k34_deeds_that_join_holds : PySem.Challenge.rw_roundweave_k34_deeds_that_join.Holds := by
  w_on; o_law
  o_head K34.hk
  case hw => w_witness2
  case hc =>
    exact DL.walk_D (l := K34.RWL) (m := 63) (x := "law") (T := K34.md.tb) 8 rfl (by decide) (by kernel_rfl) (by decide) (by kernel_rfl) (fun w mg h Y G => Exists.elim Y fun K hK => ⟨K, hK.1, DL.mod_ok hK.1 G hK.2 K34.okB⟩) (by decide +kernel) K34.law_ok
