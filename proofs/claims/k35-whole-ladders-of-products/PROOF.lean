import PyProof.Rows.All
import Wide.All
import OpenK.AllK
import Wide.FinOn
import HandS.ForMost
import HandS.Exc
import HandS.Defaults
import HandS.HeadHook2
import HandS.Wide
import HandS.TupAny
import HandS.TupMul
import HandS.Deep
import HandS.Star
import HandS.IsInst
import HandS.More
import HandS.SortInts
import HandS.SortRule
import HandS.Conv
import HandS.TupLen
import HandS.WideBits
import HandS.Style
import HandS.Zip
import HandS.WideMore
import KE.GoesMore
import HandS.Iter
import HandS.BoundDict
import HandS.HeadEnd
import HandS.EndBits
import HandS.DictTup
import HandS.TupSets
import HandS.HeadHook3
import HandS.SetFor
import HandS.Strs
import HandS.RaiseMore
import HandS.TupLe
import HandS.DictComp
import PyProof.P3Eq
import PyProof.ReprLen
import KE.KStateDown
import HandS.Head0
import HandS.Head1
import HandS.Head2
import HandS.HeadHook1
import PySem.Challenge.RW_splitcorners_k35_whole_ladders_of_produc
set_option Elab.async false
set_option linter.all false
set_option maxRecDepth 100000
namespace Spl
open PySem PySem.Spec L2

/-! deep data -/
abbrev KK := Sum Key (List Key)
inductive D where
  | non | bl (b : Bool) | int (i : Int) | str (x : Str)
  | tup (xs : List D) | lst (xs : List D)
  | dic (ks : List KK) (vs : List D)
  | obj (c : Str) (ns : List Str) (vs : List D)
  | scr (ns : List Int)
  | fn (q : Str)

/-- a dict's content -/
def DicIs (H : Hp) (a : Addr) (ks : List KK) (vs : List V) : Prop :=
  ks.length = vs.length ∧ ks.Nodup ∧
  ((∃ kk : List Key, ks = kk.map Sum.inl ∧ Rd H a (.dK (kk.zip vs))) ∨ (∃ kk : List (List Key), (ks = kk.map Sum.inr ∧ kk ≠ []) ∧ Rd H a (.dT (kk.zip vs))))

mutual
def RepD (K : PySem.W.Frag) (Z : Hp) : D → V → Prop
  | .non, v => v = .non
  | .bl b, v => v = .bl b
  | .int i, v => v = .int i
  | .str x, v => v = .str x
  | .tup xs, v => ∃ a vs, v = .ref a ∧ SqT K Z a vs ∧ RepL K Z xs vs
  | .lst xs, v => ∃ a vs, v = .ref a ∧ Z a = some (.lst vs) ∧ RepL K Z xs vs
  | .dic ks ds, v => ∃ a vs, v = .ref a ∧ DicIs Z a ks vs ∧ RepL K Z ds vs
  | .obj c ns ds, v => ∃ a dx vs, v = .ref a ∧ Z a = some (.ins (He.ga K c) dx (ns.zip vs)) ∧ ns.length = vs.length ∧ RepL K Z ds vs
  | .scr ns, v => ∃ a, v = .ref a ∧ SqL K Z a (ns.map V.int)
  | .fn q, v => v = .ref (He.ga K q)
def RepL (K : PySem.W.Frag) (Z : Hp) : List D → List V → Prop
  | [], vs => vs = []
  | d :: ds, vs => ∃ v r, vs = v :: r ∧ RepD K Z d v ∧ RepL K Z ds r
end

/-- what a loop may lock -/
def Lk : HO → Prop
  | .dK _ => True
  | .dT _ => True
  | _ => False
/-- the frozen part stands in the heap -/
def Sub (Z H : Hp) : Prop := ∀ b o, Z b = some o → H b = some o ∨ (Lk o ∧ ∃ ob, H b = some (.frz ob o))
theorem Sub.refl (Z : Hp) : Sub Z Z := fun _ _ h => .inl h
theorem Sub.of {Z Z' : Hp} (h : ∀ b o, Z b = some o → Z' b = some o) : Sub Z Z' := fun b o e => .inl (h b o e)
theorem Sub.trans {Z Z' H : Hp} (h : ∀ b o, Z b = some o → Z' b = some o) (s : Sub Z' H) : Sub Z H := fun b o e => s b o (h b o e)
theorem Sub.rd {Z H : Hp} {a : Addr} {o : HO} (s : Sub Z H) (h : Rd Z a o) : Rd H a o := by
  rcases h with h | ⟨ob, h⟩
  · rcases s a o h with q | ⟨_, ob, q⟩
    · exact .inl q
    · exact .inr ⟨ob, q⟩
  · rcases s a _ h with q | ⟨f, _⟩
    · exact .inr ⟨ob, q⟩
    · exact f.elim
theorem Sub.sqL {K : PySem.W.Frag} {Z H : Hp} {a : Addr} {xs : List V} (s : Sub Z H) (h : SqL K Z a xs) : SqL K H a xs := h.imp s.rd id
theorem Sub.sqT {K : PySem.W.Frag} {Z H : Hp} {a : Addr} {xs : List V} (s : Sub Z H) (h : SqT K Z a xs) : SqT K H a xs := h.imp s.rd id
theorem Sub.dicIs {Z H : Hp} {a : Addr} {ks : List KK} {vs : List V} (s : Sub Z H) (h : DicIs Z a ks vs) : DicIs H a ks vs := by
  obtain ⟨h1, h2, h3⟩ := h
  refine ⟨h1, h2, ?_⟩
  rcases h3 with ⟨kk, e, r⟩ | ⟨kk, e, r⟩
  · exact .inl ⟨kk, e, s.rd r⟩
  · exact .inr ⟨kk, e, s.rd r⟩
theorem Sub.lst {Z H : Hp} {a : Addr} {xs : List V} (s : Sub Z H) (h : Z a = some (.lst xs)) : H a = some (.lst xs) := by
  rcases s a _ h with q | ⟨f, _⟩
  · exact q
  · exact f.elim
theorem Sub.ins {Z H : Hp} {a C dx : Addr} {fs : List (Str × V)} (s : Sub Z H) (h : Z a = some (.ins C dx fs)) : H a = some (.ins C dx fs) := by
  rcases s a _ h with q | ⟨f, _⟩
  · exact q
  · exact f.elim

mutual
theorem RepD.sub {K : PySem.W.Frag} {Z H : Hp} (s : Sub Z H) : ∀ {d : D} {v : V}, RepD K Z d v → RepD K H d v
  | .non, v, h => by unfold RepD at h ⊢; exact h
  | .bl b, v, h => by unfold RepD at h ⊢; exact h
  | .int i, v, h => by unfold RepD at h ⊢; exact h
  | .str x, v, h => by unfold RepD at h ⊢; exact h
  | .tup xs, v, h => by
    unfold RepD at h ⊢
    obtain ⟨a, vs, e, q, r⟩ := h
    exact ⟨a, vs, e, s.sqT q, RepL.sub s r⟩
  | .lst xs, v, h => by
    unfold RepD at h ⊢
    obtain ⟨a, vs, e, q, r⟩ := h
    exact ⟨a, vs, e, s.lst q, RepL.sub s r⟩
  | .dic ks ds, v, h => by
    unfold RepD at h ⊢
    obtain ⟨a, vs, e, q, r⟩ := h
    exact ⟨a, vs, e, s.dicIs q, RepL.sub s r⟩
  | .obj c ns ds, v, h => by
    unfold RepD at h ⊢
    obtain ⟨a, dx, vs, e, q, l, r⟩ := h
    exact ⟨a, dx, vs, e, s.ins q, l, RepL.sub s r⟩
  | .scr ns, v, h => by
    unfold RepD at h ⊢
    obtain ⟨a, e, q⟩ := h
    exact ⟨a, e, s.sqL q⟩
  | .fn q, v, h => by unfold RepD at h ⊢; exact h
theorem RepL.sub {K : PySem.W.Frag} {Z H : Hp} (s : Sub Z H) : ∀ {ds : List D} {vs : List V}, RepL K Z ds vs → RepL K H ds vs
  | [], vs, h => by unfold RepL at h ⊢; exact h
  | d :: ds, vs, h => by
    unfold RepL at h ⊢
    obtain ⟨v, r, e, h1, h2⟩ := h
    exact ⟨v, r, e, RepD.sub s h1, RepL.sub s h2⟩
end
section
variable {K : PySem.W.Frag} {Z H : Hp}
theorem RepL.length : ∀ {ds : List D} {vs : List V}, RepL K Z ds vs → ds.length = vs.length
  | [], vs, h => by unfold RepL at h; subst h; rfl
  | d :: ds, vs, h => by
    unfold RepL at h
    obtain ⟨v, r, rfl, _, h2⟩ := h
    simp [h2.length]
theorem RepL.nil : RepL K Z [] [] := by unfold RepL; rfl
theorem RepL.cons {d : D} {ds : List D} {v : V} {vs : List V} (h : RepD K Z d v) (r : RepL K Z ds vs) : RepL K Z (d :: ds) (v :: vs) := by
  unfold RepL; exact ⟨v, vs, rfl, h, r⟩
theorem RepL.append : ∀ {ds es : List D} {vs us : List V}, RepL K Z ds vs → RepL K Z es us → RepL K Z (ds ++ es) (vs ++ us)
  | [], es, vs, us, h, r => by unfold RepL at h; subst h; exact r
  | d :: ds, es, vs, us, h, r => by
    unfold RepL at h
    obtain ⟨v, q, rfl, h1, h2⟩ := h
    exact .cons h1 (h2.append r)
theorem RepL.get : ∀ {ds : List D} {vs : List V} {i : Nat} {d : D}, RepL K Z ds vs → ds[i]? = some d → ∃ v, vs[i]? = some v ∧ RepD K Z d v
  | [], vs, i, d, h, e => by simp at e
  | a :: ds, vs, 0, d, h, e => by
    unfold RepL at h
    obtain ⟨v, q, rfl, h1, h2⟩ := h
    simp at e; subst e
    exact ⟨v, rfl, h1⟩
  | a :: ds, vs, i + 1, d, h, e => by
    unfold RepL at h
    obtain ⟨v, q, rfl, h1, h2⟩ := h
    obtain ⟨u, e1, e2⟩ := h2.get (i := i) (d := d) (by simpa using e)
    exact ⟨u, by simpa using e1, e2⟩
theorem RepL.got : ∀ {ds : List D} {vs : List V} {i : Nat} {v : V}, RepL K Z ds vs → vs[i]? = some v → ∃ d, ds[i]? = some d ∧ RepD K Z d v := fun {ds vs i v} h e => by
  have hl := h.length
  have hi : i < ds.length := by have := (List.getElem?_eq_some_iff.mp e).1; omega
  obtain ⟨u, e1, e2⟩ := h.get (i := i) (d := ds[i]) (by simp [hi])
  rw [e] at e1; cases e1
  exact ⟨_, by simp [hi], e2⟩
theorem RepL.take (n : Nat) : ∀ {ds : List D} {vs : List V}, RepL K Z ds vs → RepL K Z (ds.take n) (vs.take n) := by
  induction n with
  | zero => intro ds vs _; exact .nil
  | succ n ih =>
    intro ds vs h
    cases ds with
    | nil => unfold RepL at h; subst h; exact .nil
    | cons d ds =>
      unfold RepL at h
      obtain ⟨v, q, rfl, h1, h2⟩ := h
      exact .cons h1 (ih h2)
theorem RepL.drop (n : Nat) : ∀ {ds : List D} {vs : List V}, RepL K Z ds vs → RepL K Z (ds.drop n) (vs.drop n) := by
  induction n with
  | zero => intro ds vs h; exact h
  | succ n ih =>
    intro ds vs h
    cases ds with
    | nil => unfold RepL at h; subst h; exact .nil
    | cons d ds =>
      unfold RepL at h
      obtain ⟨v, q, rfl, h1, h2⟩ := h
      exact ih h2
theorem RepL.reverse : ∀ {ds : List D} {vs : List V}, RepL K Z ds vs → RepL K Z ds.reverse vs.reverse
  | [], vs, h => by unfold RepL at h; subst h; exact .nil
  | d :: ds, vs, h => by
    unfold RepL at h
    obtain ⟨v, q, rfl, h1, h2⟩ := h
    rw [List.reverse_cons, List.reverse_cons]
    exact h2.reverse.append (.cons h1 .nil)
theorem RepL.set {d : D} {v : V} (hd : RepD K Z d v) : ∀ {ds : List D} {vs : List V} (i : Nat), RepL K Z ds vs → RepL K Z (ds.set i d) (vs.set i v)
  | [], vs, i, h => by unfold RepL at h; subst h; exact .nil
  | a :: ds, vs, 0, h => by
    unfold RepL at h
    obtain ⟨u, q, rfl, h1, h2⟩ := h
    exact .cons hd h2
  | a :: ds, vs, i + 1, h => by
    unfold RepL at h
    obtain ⟨u, q, rfl, h1, h2⟩ := h
    exact .cons h1 (h2.set hd i)
end

/-! what a slot holds: frozen data, or a thing of one's own -/
inductive W where
  | dat (d : D) | lst (xs : List D) | dic (ks : List KK) (vs : List D) | obj (c : Str) (ns : List Str) (vs : List D)
def W.view : W → D
  | .dat d => d
  | .lst xs => .lst xs
  | .dic ks vs => .dic ks vs
  | .obj c ns vs => .obj c ns vs
/-- w is held by v; o its own address -/
def RepW (K : PySem.W.Frag) (Z H : Hp) : W → V → Option Addr → Prop
  | .dat d, v, o => o = none ∧ RepD K Z d v
  | .lst xs, v, o => ∃ a vs, v = .ref a ∧ o = some a ∧ H a = some (.lst vs) ∧ RepL K Z xs vs
  | .dic ks ds, v, o => ∃ a vs, v = .ref a ∧ o = some a ∧ (ks.length = vs.length ∧ ks.Nodup ∧
      ((∃ kk : List Key, ks = kk.map Sum.inl ∧ H a = some (.dK (kk.zip vs))) ∨ (∃ kk : List (List Key), (ks = kk.map Sum.inr ∧ kk ≠ []) ∧ H a = some (.dT (kk.zip vs))))) ∧ RepL K Z ds vs
  | .obj c ns ds, v, o => ∃ a dx vs, v = .ref a ∧ o = some a ∧ H a = some (.ins (He.ga K c) dx (ns.zip vs)) ∧ ns.length = vs.length ∧ RepL K Z ds vs
/-- a view of it -/
theorem RepW.repD {K : PySem.W.Frag} {Z H : Hp} (s : Sub Z H) : ∀ {w : W} {v : V} {o : Option Addr}, RepW K Z H w v o → RepD K H w.view v
  | .dat d, v, o, h => h.2.sub s
  | .lst xs, v, o, ⟨a, vs, e, _, e2, r⟩ => by unfold W.view RepD; exact ⟨a, vs, e, e2, r.sub s⟩
  | .dic ks ds, v, o, ⟨a, vs, e, _, ⟨l, n, e2⟩, r⟩ => by
    unfold W.view RepD
    refine ⟨a, vs, e, ⟨l, n, ?_⟩, r.sub s⟩
    rcases e2 with ⟨kk, q, e3⟩ | ⟨kk, q, e3⟩
    · exact .inl ⟨kk, q, .inl e3⟩
    · exact .inr ⟨kk, q, .inl e3⟩
  | .obj c ns ds, v, o, ⟨a, dx, vs, e, _, e2, l, r⟩ => by unfold W.view RepD; exact ⟨a, dx, vs, e, e2, l, r.sub s⟩
theorem RepW.own_some {K : PySem.W.Frag} {Z H : Hp} : ∀ {w : W} {v : V} {a : Addr}, RepW K Z H w v (some a) → v = .ref a ∧ ∃ o, H a = some o
  | .dat d, v, o, h => by cases h.1
  | .lst xs, v, o, ⟨a, vs, e, e1, e2, r⟩ => by cases e1; exact ⟨e, _, e2⟩
  | .dic ks ds, v, o, ⟨a, vs, e, e1, ⟨l, n, e2⟩, r⟩ => by
    cases e1
    rcases e2 with ⟨kk, q, e3⟩ | ⟨kk, q, e3⟩
    · exact ⟨e, _, e3⟩
    · exact ⟨e, _, e3⟩
  | .obj c ns ds, v, o, ⟨a, dx, vs, e, e1, e2, l, r⟩ => by cases e1; exact ⟨e, _, e2⟩

/-! the ghost -/
structure Gh where
  Z : Hp
  own : Nat → Option Addr
  /-- the slots of the things that were handed in to be changed -/
  io : List Nat
abbrev Rho := List (Option W)
def look (ρ : Rho) (i : Nat) : Option W := (ρ[i]?).join
theorem look_eq {ρ : Rho} {i : Nat} {w : W} : look ρ i = some w ↔ ρ[i]? = some (some w) := by
  unfold look
  cases e : ρ[i]? with
  | none => simp
  | some o => simp
structure Rel (K : PySem.W.Frag) (g : Gh) (ρ : Rho) (σ : St) (H : Hp) : Prop where
  len : ρ.length = σ.length
  sub : Sub g.Z H
  at_ : ∀ (i : Nat) (w : W), look ρ i = some w → ∃ v, σ[i]? = some (some v) ∧ RepW K g.Z H w v (g.own i)
  emp : ∀ i, look ρ i = none → g.own i = none
  nz : ∀ i a, g.own i = some a → g.Z a = none
  inj : ∀ i j a, g.own i = some a → g.own j = some a → i = j
/-- later -/
structure Ext (g : Gh) (H : Hp) (g' : Gh) (H' : Hp) : Prop where
  z : ∀ b o, g.Z b = some o → g'.Z b = some o
  fr : ∀ b o, H b = some o → (∀ i, g.own i ≠ some b) → H' b = some o
  fr2 : ∀ b, H b ≠ none → H' b ≠ none
  nw : ∀ b, g'.Z b ≠ none → g.Z b ≠ none ∨ H b = none ∨ ∃ i, g.own i = some b
  ow : ∀ i a, g'.own i = some a → (∃ j, g.own j = some a) ∨ H a = none
  io : g'.io = g.io
  ioo : ∀ i ∈ g.io, g'.own i = g.own i
theorem Ext.refl (g : Gh) (H : Hp) : Ext g H g H := ⟨fun _ _ h => h, fun _ _ h _ => h, fun _ h => h, fun _ h => .inl h, fun i a h => .inl ⟨i, h⟩, rfl, fun _ _ => rfl⟩
theorem Ext.trans {g g1 g2 : Gh} {H H1 H2 : Hp} (a : Ext g H g1 H1) (b : Ext g1 H1 g2 H2) : Ext g H g2 H2 := by
  have key : ∀ x, H1 x = none → H x = none := fun x h => Classical.byContradiction fun n => a.fr2 x n h
  refine ⟨fun x o h => b.z x o (a.z x o h), fun x o h n => ?_, fun x h => b.fr2 x (a.fr2 x h), fun x h => ?_, fun i x h => ?_, b.io.trans a.io, fun i hi => (b.ioo i (by rw [a.io]; exact hi)).trans (a.ioo i hi)⟩
  · refine b.fr x o (a.fr x o h n) fun i e => ?_
    rcases a.ow i x e with ⟨j, q⟩ | q
    · exact n j q
    · rw [q] at h; cases h
  · rcases b.nw x h with q | q | ⟨i, q⟩
    · exact a.nw x q
    · exact .inr (.inl (key x q))
    · rcases a.ow i x q with q | q
      · exact .inr (.inr q)
      · exact .inr (.inl q)
  · rcases b.ow i x h with ⟨j, q⟩ | q
    · exact a.ow j x q
    · exact .inr (key x q)

/-! a value that an expression gives -/
inductive R where
  | val (d : D) | place (i : Nat) | tmp (w : W)
def RepR (K : PySem.W.Frag) (H0 : Hp) (g : Gh) (σ : St) (H : Hp) : R → V → Prop
  | .val d, v => RepD K g.Z d v
  | .place i, v => σ[i]? = some (some v)
  | .tmp w, v => ∃ a, RepW K g.Z H w v (some a) ∧ g.Z a = none ∧ (∀ i, g.own i ≠ some a) ∧ H0 a = none
def R.view (ρ : Rho) : R → Option D
  | .val d => some d
  | .place i => (look ρ i).map W.view
  | .tmp w => some w.view
/-- a cell stays where its object and the frozen part stay -/
theorem RepW.stay {K : PySem.W.Frag} {Z Z' H H' : Hp} (hz : ∀ b o, Z b = some o → Z' b = some o) : ∀ {w : W} {v : V} {o : Option Addr}, RepW K Z H w v o → (∀ a ob, o = some a → H a = some ob → H' a = some ob) → RepW K Z' H' w v o
  | .dat d, v, o, h, k => ⟨h.1, h.2.sub (.of hz)⟩
  | .lst xs, v, o, ⟨a, vs, e, e1, e2, r⟩, k => ⟨a, vs, e, e1, k a _ e1 e2, r.sub (.of hz)⟩
  | .dic ks ds, v, o, ⟨a, vs, e, e1, ⟨l, n, e2⟩, r⟩, k => by
    refine ⟨a, vs, e, e1, ⟨l, n, ?_⟩, r.sub (.of hz)⟩
    rcases e2 with ⟨kk, q, e3⟩ | ⟨kk, q, e3⟩
    · exact .inl ⟨kk, q, k a _ e1 e3⟩
    · exact .inr ⟨kk, q, k a _ e1 e3⟩
  | .obj c ns ds, v, o, ⟨a, dx, vs, e, e1, e2, l, r⟩, k => ⟨a, dx, vs, e, e1, k a _ e1 e2, l, r.sub (.of hz)⟩
theorem RepR.ext {K : PySem.W.Frag} {H0 : Hp} {g g' : Gh} {σ : St} {H H' : Hp} (x : Ext g H g' H') : ∀ {r : R} {v : V}, RepR K H0 g σ H r v → RepR K H0 g' σ H' r v
  | .val d, v, h => RepD.sub (.of x.z) h
  | .place i, v, h => h
  | .tmp w, v, ⟨a, h, h1, h2, h3⟩ => by
    have hne : ∃ o, H a = some o := h.own_some.2
    refine ⟨a, h.stay x.z fun b ob e q => ?_, ?_, fun i q => ?_, h3⟩
    · cases e
      exact x.fr _ _ q h2
    · cases q : g'.Z a with
      | none => rfl
      | some o =>
        rcases x.nw a (by rw [q]; simp) with z | z | ⟨i, z⟩
        · exact absurd h1 z
        · obtain ⟨o, e⟩ := hne
          rw [z] at e; cases e
        · exact absurd z (h2 i)
    · rcases x.ow i a q with ⟨j, z⟩ | z
      · exact h2 j z
      · obtain ⟨o, e⟩ := hne
        rw [z] at e; cases e
/-- what is seen of it -/
theorem RepR.repD {K : PySem.W.Frag} {H0 : Hp} {g : Gh} {ρ : Rho} {σ : St} {H : Hp} (G : Rel K g ρ σ H) {r : R} {v : V} {d : D} (h : RepR K H0 g σ H r v) (q : r.view ρ = some d) : RepD K H d v := by
  cases r with
  | val e => cases q; exact RepD.sub G.sub h
  | place i =>
    have q : (look ρ i).map W.view = some d := q
    cases e : look ρ i with
    | none => rw [e] at q; cases q
    | some w =>
      rw [e] at q
      cases q
      obtain ⟨u, hu, rw'⟩ := G.at_ i w e
      have h : σ[i]? = some (some v) := h
      rw [h] at hu; cases hu
      exact rw'.repD G.sub
  | tmp w => cases q; obtain ⟨a, h, _⟩ := h; exact h.repD G.sub
/-- told from an earlier start -/
theorem RepR.from {K : PySem.W.Frag} {H0 H1 : Hp} {g : Gh} {σ : St} {H : Hp} (k : ∀ b, H0 b ≠ none → H1 b ≠ none) : ∀ {r : R} {v : V}, RepR K H1 g σ H r v → RepR K H0 g σ H r v
  | .val d, v, h => h
  | .place i, v, h => h
  | .tmp w, v, ⟨a, h, h1, h2, h3⟩ => ⟨a, h, h1, h2, Classical.byContradiction fun n => k a n h3⟩
end Spl

namespace Spl
open PySem PySem.Spec L2

/-! one level of a value, its items frozen -/
def RepU (K : PySem.W.Frag) (Z H : Hp) : D → V → Prop
  | .non, v => v = .non
  | .bl b, v => v = .bl b
  | .int i, v => v = .int i
  | .str x, v => v = .str x
  | .tup xs, v => ∃ a vs, v = .ref a ∧ SqT K Z a vs ∧ RepL K Z xs vs
  | .lst xs, v => ∃ a vs, v = .ref a ∧ H a = some (.lst vs) ∧ RepL K Z xs vs
  | .dic ks ds, v => ∃ a vs, v = .ref a ∧ DicIs H a ks vs ∧ RepL K Z ds vs
  | .obj c ns ds, v => ∃ a dx vs, v = .ref a ∧ H a = some (.ins (He.ga K c) dx (ns.zip vs)) ∧ ns.length = vs.length ∧ RepL K Z ds vs
  | .scr ns, v => ∃ a, v = .ref a ∧ SqL K H a (ns.map V.int)
  | .fn q, v => v = .ref (He.ga K q)
section
variable {K : PySem.W.Frag} {Z H : Hp}
theorem RepD.u (s : Sub Z H) : ∀ {d : D} {v : V}, RepD K Z d v → RepU K Z H d v
  | .non, v, h => by unfold RepD at h; exact h
  | .bl b, v, h => by unfold RepD at h; exact h
  | .int i, v, h => by unfold RepD at h; exact h
  | .str x, v, h => by unfold RepD at h; exact h
  | .tup xs, v, h => by
    unfold RepD at h
    obtain ⟨a, vs, e, q, r⟩ := h
    exact ⟨a, vs, e, q, r⟩
  | .lst xs, v, h => by
    unfold RepD at h
    obtain ⟨a, vs, e, q, r⟩ := h
    exact ⟨a, vs, e, s.lst q, r⟩
  | .dic ks ds, v, h => by
    unfold RepD at h
    obtain ⟨a, vs, e, q, r⟩ := h
    exact ⟨a, vs, e, s.dicIs q, r⟩
  | .obj c ns ds, v, h => by
    unfold RepD at h
    obtain ⟨a, dx, vs, e, q, l, r⟩ := h
    exact ⟨a, dx, vs, e, s.ins q, l, r⟩
  | .scr ns, v, h => by
    unfold RepD at h
    obtain ⟨a, e, q⟩ := h
    exact ⟨a, e, s.sqL q⟩
  | .fn q, v, h => by unfold RepD at h; exact h
theorem RepW.u (s : Sub Z H) : ∀ {w : W} {v : V} {o : Option Addr}, RepW K Z H w v o → RepU K Z H w.view v
  | .dat d, v, o, h => h.2.u s
  | .lst xs, v, o, ⟨a, vs, e, _, e2, r⟩ => ⟨a, vs, e, e2, r⟩
  | .dic ks ds, v, o, ⟨a, vs, e, _, ⟨l, n, e2⟩, r⟩ => by
    refine ⟨a, vs, e, ⟨l, n, ?_⟩, r⟩
    rcases e2 with ⟨kk, q, e3⟩ | ⟨kk, q, e3⟩
    · exact .inl ⟨kk, q, .inl e3⟩
    · exact .inr ⟨kk, q, .inl e3⟩
  | .obj c ns ds, v, o, ⟨a, dx, vs, e, _, e2, l, r⟩ => ⟨a, dx, vs, e, e2, l, r⟩
theorem RepU.repD (s : Sub Z H) : ∀ {d : D} {v : V}, RepU K Z H d v → RepD K H d v
  | .non, v, h => by unfold RepD; exact h
  | .bl b, v, h => by unfold RepD; exact h
  | .int i, v, h => by unfold RepD; exact h
  | .str x, v, h => by unfold RepD; exact h
  | .tup xs, v, ⟨a, vs, e, q, r⟩ => by unfold RepD; exact ⟨a, vs, e, s.sqT q, r.sub s⟩
  | .lst xs, v, ⟨a, vs, e, q, r⟩ => by unfold RepD; exact ⟨a, vs, e, q, r.sub s⟩
  | .dic ks ds, v, ⟨a, vs, e, q, r⟩ => by unfold RepD; exact ⟨a, vs, e, q, r.sub s⟩
  | .obj c ns ds, v, ⟨a, dx, vs, e, q, l, r⟩ => by unfold RepD; exact ⟨a, dx, vs, e, q, l, r.sub s⟩
  | .scr ns, v, ⟨a, e, q⟩ => by unfold RepD; exact ⟨a, e, q⟩
  | .fn q, v, h => by unfold RepD; exact h
theorem RepR.u {H0 : Hp} {g : Gh} {ρ : Rho} {σ : St} (G : Rel K g ρ σ H) {r : R} {v : V} {d : D} (h : RepR K H0 g σ H r v) (q : r.view ρ = some d) : RepU K g.Z H d v := by
  cases r with
  | val e => cases q; exact RepD.u G.sub h
  | place i =>
    have q : (look ρ i).map W.view = some d := q
    cases e : look ρ i with
    | none => rw [e] at q; cases q
    | some w =>
      rw [e] at q
      cases q
      obtain ⟨u, hu, rw'⟩ := G.at_ i w e
      have h : σ[i]? = some (some v) := h
      rw [h] at hu; cases hu
      exact rw'.u G.sub
  | tmp w => cases q; obtain ⟨a, h, _⟩ := h; exact h.u G.sub
end

/-! what an operation may lay anew -/
structure NewOk (Z H Z' H' : Hp) : Prop where
  z : ∀ b o, Z b = some o → Z' b = some o
  h : ∀ b o, H b = some o → H' b = some o
  nw : ∀ b, Z' b ≠ none → Z b ≠ none ∨ H b = none
  sub : Sub Z' H'
theorem NewOk.refl {Z H : Hp} (s : Sub Z H) : NewOk Z H Z H := ⟨fun _ _ h => h, fun _ _ h => h, fun _ h => .inl h, s⟩
theorem NewOk.trans {Z H Z1 H1 Z2 H2 : Hp} (a : NewOk Z H Z1 H1) (b : NewOk Z1 H1 Z2 H2) : NewOk Z H Z2 H2 :=
  ⟨fun x o h => b.z x o (a.z x o h), fun x o h => b.h x o (a.h x o h), fun x h => by
    rcases b.nw x h with q | q
    · exact a.nw x q
    · refine .inr (Classical.byContradiction fun n => ?_)
      cases e : H x with
      | none => exact n e
      | some o =>
        have z := a.h x o e
        rw [z] at q
        simp at q, b.sub⟩
/-- an operation's result -/
def RepN (K : PySem.W.Frag) (H Z' H' : Hp) : R → V → Prop
  | .val d, v => RepD K Z' d v
  | .place _, _ => False
  | .tmp w, v => ∃ a, RepW K Z' H' w v (some a) ∧ Z' a = none ∧ H a = none
/-- a new object, not frozen -/
theorem NewOk.fresh {Z H : Hp} (s : Sub Z H) {p : Addr} {o : HO} (hp : H p = none) : NewOk Z H Z (upd H p o) ∧ Z p = none := by
  have hz : Z p = none := by
    cases e : Z p with
    | none => rfl
    | some u => rcases s p u e with q | ⟨_, _, q⟩ <;> rw [hp] at q <;> cases q
  exact ⟨⟨fun _ _ h => h, fun b u h => by rw [upd_ne (ne_of_none h hp)]; exact h, fun _ h => .inl h, fun b u h => by
    have hb : b ≠ p := fun e => by rw [e, hz] at h; cases h
    rw [upd_ne hb]; exact s b u h⟩, hz⟩
/-- a new frozen object -/
theorem NewOk.frozen {Z H : Hp} (s : Sub Z H) {p : Addr} {o : HO} (hp : H p = none) : NewOk Z H (upd Z p o) (upd H p o) := by
  have hz := (NewOk.fresh s (o := o) hp).2
  refine ⟨fun b u h => by rw [upd_ne (ne_of_none h hz)]; exact h, fun b u h => by rw [upd_ne (ne_of_none h hp)]; exact h, fun b h => ?_, fun b u h => ?_⟩
  · by_cases e : b = p
    · subst e; exact .inr hp
    · rw [upd_ne e] at h; exact .inl h
  · by_cases e : b = p
    · subst e; rw [upd_same] at h ⊢; exact .inl h
    · rw [upd_ne e] at h ⊢; exact s b u h
theorem RepN.tup {K : PySem.W.Frag} {Z H : Hp} (s : Sub Z H) {p : Addr} {vs : List V} {xs : List D} (hp : H p = none) (r : RepL K Z xs vs) : RepN K H (upd Z p (.tup vs)) (upd H p (.tup vs)) (.val (.tup xs)) (.ref p) := by
  show RepD K _ _ _
  unfold RepD
  exact ⟨p, vs, rfl, .of upd_same, r.sub (.of (NewOk.frozen s hp).z)⟩
theorem RepN.lst {K : PySem.W.Frag} {Z H : Hp} (s : Sub Z H) {p : Addr} {vs : List V} {xs : List D} (hp : H p = none) (r : RepL K Z xs vs) : RepN K H Z (upd H p (.lst vs)) (.tmp (.lst xs)) (.ref p) :=
  ⟨p, ⟨p, vs, rfl, rfl, upd_same, r⟩, (NewOk.fresh s (o := .lst vs) hp).2, hp⟩
/-- into the state -/
theorem NewOk.ext {K : PySem.W.Frag} {g : Gh} {ρ : Rho} {σ : St} {H Z' H' : Hp} (G : Rel K g ρ σ H) (x : NewOk g.Z H Z' H') : Ext g H ⟨Z', g.own, g.io⟩ H' ∧ Rel K ⟨Z', g.own, g.io⟩ ρ σ H' := by
  have alive : ∀ i a, g.own i = some a → ∃ o, H a = some o := fun i a h => by
    cases e : look ρ i with
    | none => rw [G.emp i e] at h; cases h
    | some w =>
      obtain ⟨v, _, q⟩ := G.at_ i w e
      rw [h] at q
      exact q.own_some.2
  refine ⟨⟨x.z, fun b o h _ => x.h b o h, fun b h => ?_, fun b h => ?_, fun i a h => .inl ⟨i, h⟩, rfl, fun _ _ => rfl⟩, ⟨G.len, x.sub, fun i w h => ?_, G.emp, fun i a h => ?_, G.inj⟩⟩
  · cases e : H b with
    | none => exact absurd e h
    | some o => rw [x.h b o e]; simp
  · rcases x.nw b h with q | q
    · exact .inl q
    · exact .inr (.inl q)
  · obtain ⟨v, e, q⟩ := G.at_ i w h
    exact ⟨v, e, q.stay x.z fun a ob _ z => x.h a ob z⟩
  · cases e : Z' a with
    | none => exact e
    | some o =>
      exfalso
      obtain ⟨ob, z⟩ := alive i a h
      rcases x.nw a (by rw [e]; simp) with q | q
      · exact q (G.nz i a h)
      · rw [z] at q; cases q
theorem RepN.r {K : PySem.W.Frag} {g : Gh} {ρ : Rho} {σ : St} {H Z' H' : Hp} (G : Rel K g ρ σ H) (x : NewOk g.Z H Z' H') : ∀ {r : R} {v : V}, RepN K H Z' H' r v → RepR K H ⟨Z', g.own, g.io⟩ σ H' r v
  | .val d, v, h => h
  | .place i, v, h => h.elim
  | .tmp w, v, ⟨a, h, h1, h2⟩ => by
    refine ⟨a, h, h1, fun i q => ?_, h2⟩
    have q : g.own i = some a := q
    cases e : look ρ i with
    | none => rw [G.emp i e] at q; cases q
    | some w =>
      obtain ⟨v, _, z⟩ := G.at_ i w e
      rw [q] at z
      obtain ⟨o, z⟩ := z.own_some.2
      rw [h2] at z; cases z

/-! results of an evaluation -/
inductive Rs (α : Type) where
  | ok (a : α) (ρ : Rho) | exc (c : Str) (ns : List Str) (ds : List D) (ρ : Rho) | stuck
def Rs.bind {α β : Type} (x : Rs α) (f : α → Rho → Rs β) : Rs β := match x with
  | .ok a ρ => f a ρ
  | .exc c ns ds ρ => .exc c ns ds ρ
  | .stuck => .stuck
def opt {α : Type} (o : Option α) (ρ : Rho) : Rs α := match o with
  | some a => .ok a ρ
  | none => .stuck
/-- how an evaluation stands: the written part, the wish about exceptions, the slots handed in -/
structure Ct where
  K : PySem.W.Frag
  W : WX
  io : List Nat
/-- behind an evaluation: Q of what it gives, or the wish about the exception -/
def Post {α β : Type} (c : Ct) (g : Gh) (σ : St) (H : Hp) (rep : Gh → Hp → α → β → Prop) (Q : β → Hp → Prop) : Rs α → Prop
  | .ok a ρ' => ∀ v H' g', Ext g H g' H' → Rel c.K g' ρ' σ H' → rep g' H' a v → Q v H'
  | .exc cn ns ds ρ' => ∀ dx vs H' g', Ext g H g' H' → Rel c.K g' ρ' σ H' → H' dx = some (.xd (ns.zip vs)) → ns.length = vs.length → RepL c.K g'.Z ds vs → c.W (.ref (He.ga c.K cn)) (some dx) σ H'
  | .stuck => False
def repR (c : Ct) (σ : St) (H0 : Hp) : Gh → Hp → R → V → Prop := fun g' H' r v => RepR c.K H0 g' σ H' r v
def tS (c : Ct) (f : Rho → Rs R) : TE := fun σ H Q => ∃ ρ g, g.io = c.io ∧ Rel c.K g ρ σ H ∧ Post c g σ H (repR c σ H) Q (f ρ)
/-- an expression, simulated -/
def SE (X : Cx) (Wx : WX) (io : List Nat) (e : Expr) (f : Rho → Rs R) : Prop := PE X e (tS ⟨X.K, Wx, io⟩ f)
theorem PE.imp {X : Cx} {e : Expr} {t t' : TE} (h : PE X e t) (i : ∀ σ H Q, t' σ H Q → t σ H Q) : PE X e t' := ⟨fun pins s σ H Q I q => h.run pins s σ H Q I (i σ H Q q)⟩
/-- a weaker wish of what comes out -/
theorem Post.mono {α β : Type} {c : Ct} {g : Gh} {σ : St} {H : Hp} {rep rep' : Gh → Hp → α → β → Prop} {Q Q' : β → Hp → Prop} {x : Rs α} (h : Post c g σ H rep Q x)
    (i : ∀ a ρ' v H' g', x = .ok a ρ' → Ext g H g' H' → Rel c.K g' ρ' σ H' → rep' g' H' a v → (rep g' H' a v → Q v H') → Q' v H') (k : ∀ g' H' a v, rep' g' H' a v → rep g' H' a v) : Post c g σ H rep' Q' x := by
  cases x with
  | stuck => exact h
  | exc cn ns ds ρ' => exact h
  | ok a ρ' => exact fun v H' g' x' G' r' => i a ρ' v H' g' rfl x' G' r' fun r => h v H' g' x' G' r
/-- from an earlier start -/
theorem Post.later {α β : Type} {c : Ct} {g g1 : Gh} {σ : St} {H H1 : Hp} {rep rep1 : Gh → Hp → α → β → Prop} {Q : β → Hp → Prop} {x : Rs α} (x1 : Ext g H g1 H1) (k : ∀ g' H' a v, rep1 g' H' a v → rep g' H' a v) (h : Post c g σ H rep Q x) : Post c g1 σ H1 rep1 Q x := by
  cases x with
  | stuck => exact h
  | exc cn ns ds ρ' => exact fun dx vs H' g' x' G' e1 e2 e3 => h dx vs H' g' (x1.trans x') G' e1 e2 e3
  | ok a ρ' => exact fun v H' g' x' G' r' => h v H' g' (x1.trans x') G' (k _ _ _ _ r')
/-- the end of a part, the rest going on -/
theorem Post.bind {α β γ δ : Type} {c : Ct} {g : Gh} {σ : St} {H : Hp} {rep : Gh → Hp → α → β → Prop} {rep' : Gh → Hp → γ → δ → Prop} {Q : δ → Hp → Prop} {x : Rs α} {f : α → Rho → Rs γ}
    (h : Post c g σ H rep' Q (x.bind f)) : Post c g σ H rep (fun v H1 => ∃ a ρ1 g1, x = .ok a ρ1 ∧ Ext g H g1 H1 ∧ Rel c.K g1 ρ1 σ H1 ∧ rep g1 H1 a v ∧ Post c g σ H rep' Q (f a ρ1)) x := by
  cases x with
  | stuck => exact h
  | exc cn ns ds ρ' => exact h
  | ok a ρ' => exact fun v H1 g1 x1 G1 r1 => ⟨a, ρ', g1, rfl, x1, G1, r1, h⟩
/-- an expression's part: it is run, the rest is asked of what it gives; g, H: where all of it began; g1, H1: where this part begins -/
theorem tS.bind {γ δ : Type} {c : Ct} {g g1 : Gh} {ρ : Rho} {σ : St} {H H1 : Hp} {f : Rho → Rs R} {k : R → Rho → Rs γ} {rep' : Gh → Hp → γ → δ → Prop} {Q : δ → Hp → Prop} {T : V → Hp → Prop} (hio : g.io = c.io) (x1 : Ext g H g1 H1) (G : Rel c.K g1 ρ σ H1)
    (h : Post c g σ H rep' Q ((f ρ).bind k)) (n : ∀ r ρ2 g2 v H2, Ext g1 H1 g2 H2 → Ext g H g2 H2 → Rel c.K g2 ρ2 σ H2 → RepR c.K H1 g2 σ H2 r v → Post c g σ H rep' Q (k r ρ2) → T v H2) : tS c f σ H1 T := by
  refine ⟨ρ, g1, x1.io.trans hio, G, ?_⟩
  cases e : f ρ with
  | stuck => rw [e] at h; exact h
  | exc cn ns ds ρ' => rw [e] at h; exact fun dx vs H' g' x' G' e1 e2 e3 => h dx vs H' g' (x1.trans x') G' e1 e2 e3
  | ok r ρ2 =>
    rw [e] at h
    exact fun v H2 g2 x2 G2 r2 => n r ρ2 g2 v H2 x2 (x1.trans x2) G2 r2 h

/-! operations on data -/
def rO1 (K : PySem.W.Frag) (o : D → Option R) : V → Hp → VK → Prop := fun x H Q => ∃ Z d r, Sub Z H ∧ RepU K Z H d x ∧ o d = some r ∧ ∀ v H' Z', NewOk Z H Z' H' → RepN K H Z' H' r v → Q v H'
def rO2 (K : PySem.W.Frag) (o : D → D → Option R) : R2 := fun x y H Q => ∃ Z d e r, Sub Z H ∧ RepU K Z H d x ∧ RepU K Z H e y ∧ o d e = some r ∧ ∀ v H' Z', NewOk Z H Z' H' → RepN K H Z' H' r v → Q v H'
def ev1 (o : D → Option R) (f : Rho → Rs R) (ρ : Rho) : Rs R := (f ρ).bind fun r ρ1 => opt ((r.view ρ1).bind o) ρ1
def ev2 (o : D → D → Option R) (f h : Rho → Rs R) (ρ : Rho) : Rs R := (f ρ).bind fun r ρ1 => (h ρ1).bind fun q ρ2 => opt ((r.view ρ2).bind fun d => (q.view ρ2).bind fun e => o d e) ρ2
/-- an operation's end -/
theorem Post.fin {c : Ct} {g g1 : Gh} {ρ : Rho} {σ : St} {H H1 : Hp} {Q : VK} {x : Option R} (x1 : Ext g H g1 H1) (G : Rel c.K g1 ρ σ H1) (p : Post c g σ H (repR c σ H) Q (opt x ρ)) : ∃ r, x = some r ∧ ∀ v H' Z', NewOk g1.Z H1 Z' H' → RepN c.K H1 Z' H' r v → Q v H' := by
  cases x with
  | none => exact p.elim
  | some r =>
    refine ⟨r, rfl, fun v H' Z' nw rn => ?_⟩
    obtain ⟨ex, G'⟩ := nw.ext G
    exact p v H' _ (x1.trans ex) G' (RepR.from x1.fr2 (rn.r G nw))
theorem tS_un {c : Ct} {o : D → Option R} {f : Rho → Rs R} {σ : St} {H : Hp} {Q : VK} (h : tS c (ev1 o f) σ H Q) : tUn (rO1 c.K o) (tS c f) σ H Q := by
  obtain ⟨ρ, g, hio, G, p⟩ := h
  refine tS.bind hio (.refl g H) G p fun r ρ1 g1 v H1 _ x1 G1 r1 p1 => ?_
  obtain ⟨y, hy, q⟩ := p1.fin x1 G1
  obtain ⟨d, hd, ho⟩ := Option.bind_eq_some_iff.mp hy
  exact ⟨g1.Z, d, y, G1.sub, r1.u G1 hd, ho, q⟩
theorem tS_op {c : Ct} {o : D → D → Option R} {f h : Rho → Rs R} {σ : St} {H : Hp} {Q : VK} (hq : tS c (ev2 o f h) σ H Q) : tOp (rO2 c.K o) (tS c f) (tS c h) σ H Q := by
  obtain ⟨ρ, g, hio, G, p⟩ := hq
  refine tS.bind hio (.refl g H) G p fun r ρ1 g1 v H1 _ x1 G1 r1 p1 => ?_
  refine tS.bind hio x1 G1 p1 fun q ρ2 g2 v2 H2 x12 x2 G2 r2 p2 => ?_
  obtain ⟨y, hy, q⟩ := p2.fin x2 G2
  obtain ⟨d, hd, ho⟩ := Option.bind_eq_some_iff.mp hy
  obtain ⟨e, he, ho⟩ := Option.bind_eq_some_iff.mp ho
  exact ⟨g2.Z, d, e, y, G2.sub, (r1.ext x12).u G2 hd, r2.u G2 he, ho, q⟩
section
variable {X : Cx} {Wx : WX} {io : List Nat} {a b : Expr} {f h : Rho → Rs R} {pos : Pos}
theorem SE_bin {op : Operator} {o : D → D → Option R} (ho : OpR X (binaryOp op) (rO2 X.K o)) (ha : SE X Wx io a f) (hb : SE X Wx io b h) : SE X Wx io (.BinOp a op b pos) (ev2 o f h) :=
  PE.imp (pe_op ho ha hb) fun _ _ _ q => tS_op q
theorem SE_un {op : UnaryOp} {o : D → Option R} (ho : UnR X (unaryOp op) (rO1 X.K o)) (ha : SE X Wx io a f) : SE X Wx io (.UnaryOp op a pos) (ev1 o f) :=
  PE.imp (pe_un ho ha) fun _ _ _ q => tS_un q
theorem SE_cmp {op : CmpOp} {o : D → D → Option R} (ho : OpR X (compareOp op) (rO2 X.K o)) (ha : SE X Wx io a f) (hb : SE X Wx io b h) (hm : behindInMarks op b = false) : SE X Wx io (.Compare a [op] [b] pos) (ev2 o f h) :=
  PE.imp (pe_cmpR ho ha hb hm) fun _ _ _ q => tS_op q
theorem SE_ix {o : D → D → Option R} (ho : IxR X (rO2 X.K o)) (ha : SE X Wx io a f) (hb : SE X Wx io b h) (hs : PlainIx b) : SE X Wx io (.Subscript a b pos) (ev2 o f h) :=
  PE.imp (pe_ix ho ha hb hs) fun _ _ _ q => tS_op q
end
end Spl

namespace Spl
open PySem PySem.Spec L2
open PyProof.Rows (envOfC)

/-! a def's promise where no repr is under way -/
structure FnG (P : Program) (w : World) (K : PySem.W.Frag) (mg : Str → Option Value) (base : Heap) (k : Nat) (f : Addr) (fd : FuncData) (ps : List Str) (sp : Sp) : Prop where
  len : ∀ vs H Q E, sp vs H Q E → vs.length = ps.length
  go : ∀ (A : Around) (outer : List Env) (s : Shared) (H : Hp) (args : Args) (us : List Value) (vs : List V) (Q : VK) (E : XK),
    Room k A → A.guards = some [] → Env0 P w K mg base A outer s H → BindsTo s fd args (ps.zip us) → Vals vs us → sp vs H Q E →
    codeAny (model P w) A (.call (.ref f) args) (CR (L2.CX P w) outer P w H s Q E) s
theorem FnG.mono {P : Program} {w : World} {K : PySem.W.Frag} {mg : Str → Option Value} {base : Heap} {j k : Nat} {f : Addr} {fd : FuncData} {ps : List Str} {sp : Sp} (F : FnG P w K mg base j f fd ps sp) (h : j ≤ k) :
    FnG P w K mg base k f fd ps sp := ⟨F.len, fun A outer s H args us vs Q E hr => F.go A outer s H args us vs Q E (hr.mono h)⟩
theorem FnG.imp {P : Program} {w : World} {K : PySem.W.Frag} {mg : Str → Option Value} {base : Heap} {k : Nat} {f : Addr} {fd : FuncData} {ps : List Str} {sp sp' : Sp} (F : FnG P w K mg base k f fd ps sp)
    (h : ∀ vs H Q E, sp' vs H Q E → sp vs H Q E) : FnG P w K mg base k f fd ps sp' :=
  ⟨fun vs H Q E q => F.len vs H Q E (h _ _ _ _ q), fun A outer s H args us vs Q E hr hg e b v q => F.go A outer s H args us vs Q E hr hg e b v (h _ _ _ _ q)⟩
/-- a promise without guards is one -/
theorem FnG.of {P : Program} {w : World} {K : PySem.W.Frag} {mg : Str → Option Value} {base : Heap} {k : Nat} {f : Addr} {fd : FuncData} {ps : List Str} {sp : Sp} (F : FnOk P w K mg base (L2.CX P w) k f fd ps sp) : FnG P w K mg base k f fd ps sp :=
  ⟨F.len, fun A outer s H args us vs Q E hr _ e b v q => F.run A outer s H args us vs Q E hr e b v q⟩

/-- the context of a body, with what is known around it -/
abbrev bodyCx (P : Program) (w : World) (K : PySem.W.Frag) (mg : Str → Option Value) (base : Heap) (N : List Str) (qual : Str) (scope : Scope) (f : Addr) (cd : Value) (A : Around) (outer : List Env) (s : Shared) (H : Hp) (E : XK) : Cx :=
  cxOf (L2.CX P w) P w K mg base N qual scope f cd A outer s H E
theorem deeper_guards (A : Around) (env : Env) : (A.deeper env).guards = A.guards := rfl
/-- a def by its body -/
theorem FnG.by {P : Program} {w : World} {K : PySem.W.Frag} {mg : Str → Option Value} {base : Heap} {k : Nat} {f : Addr} {fd : FuncData} {x qual : Str} {params : Arguments} {body : List Stmt} {scope : Scope} {dvs : List V} {kws : List (Str × V)} {N ps : List Str} {sp : Sp}
    (F : FunD K x qual params body scope dvs kws f fd) (S : FnScope N ps scope) (len : ∀ vs H Q E, sp vs H Q E → vs.length = ps.length)
    (hb : ∀ (cd : Value) (A : Around) (outer : List Env) (s : Shared) (H : Hp) (vs : List V) (Q : VK) (E : XK), Room k (A.deeper (envOfC qual scope s.heap.objs.size f cd)) → A.guards = some [] → sp vs H Q E →
      ∃ t, PSs (bodyCx P w K mg base N qual scope f cd A outer s H E) body t ∧ t { nx := fun _ H' => Q .non H', rt := Q } (start N vs) H) : FnG P w K mg base (k + 1) f fd ps sp := by
  obtain ⟨oc, od, dV, kV, doc, pm, an, cd, ct, osl, rfl, lk, hcd, _, _⟩ := F.ex
  refine ⟨len, ?_⟩
  intro A outer s H args us vs Q E hr hg e0 bt rv hq
  have hlen := len _ _ _ _ hq
  have inK : K.In s.heap := e0.mod.kin.keeps fun b o e => (e0.bs b o e).1
  have nolim : s.heap.NoLimit := e0.mod.nolimit.keeps fun b o e => (e0.bs b o e).1
  have par : ∀ y ∈ ps.zip us, scope.names.lookup y.1 = some .local ∨ (scope.names.lookup y.1 = some .cell ∧ ((cellsFrom (s.heap.objs.size + 1) scope.names []).lookup y.1).isSome = true) := by
    rintro ⟨n, v⟩ hy
    exact (S.par n (List.of_mem_zip hy).1).imp id fun q => ⟨q, PySem.W.cellsFrom_some _ _ _ (.inl q)⟩
  refine codeAny_call_function hr.depth (inK _ _ lk) rfl S.co S.gen rfl (PySem.W.codeRec_of inK hcd) (bt _ _ _ _ ?_)
  refine wpAny_newFunctionEnv_cells S.kind par fun env he s1 x => ?_
  subst he
  obtain ⟨t, ht, q⟩ := hb cd A outer s H vs Q E (hr.deeper _) hg hq
  have I := inv_start (CX := L2.CX P w) (E := E) S hr.hd e0 hlen rv x
  refine ⟨nolim.keeps x.toInCall.keep, codeAny_func (wpAny_mono (ht.run [] s1 (start N vs) H _ I q) ?_ fun _ _ z => z)⟩
  have fin : ∀ {σ' : St} {H' : Hp} {v : V} {u : Value} {s' : Shared}, Inv (bodyCx P w K mg base N qual scope f cd A outer s H E) [] σ' H' s' → RelV v u → Q v H' → CE outer P w H s Q u s' := by
    intro σ' H' v u s' J r z
    exact ⟨v, H', J.os, J.bare, J.base, J.hok, r, z⟩
  intro fl s' hs
  cases fl with
  | next =>
    obtain ⟨σ', H', J, z⟩ := hs
    exact fin (v := V.non) J rfl z
  | ret u =>
    obtain ⟨v, σ', H', J, r, z⟩ := hs
    exact fin J r z
  | brk => exact hs.elim fun _ h => h.elim fun _ h => h.2.elim
  | cont => exact hs.elim fun _ h => h.elim fun _ h => h.2.elim

/-! calls -/
/-- a call whose exceptions are wished for at the slots as they stand -/
def tCallG (sp : Sp) (dvs : List V) (Wx : WX) (t : TA) : TE := fun σ H Q => t σ H fun vs H1 => sp (vs ++ dvs) H1 Q fun c d H' => Wx c d σ H'
def tMakeG (C : Addr) (sp : Sp) (dvs : List V) (Wx : WX) (t : TA) : TE := fun σ H Q => t σ H fun vs H1 => ∀ x dx, H1 x = none → H1 dx = none → dx ≠ x →
  sp (.ref x :: (vs ++ dvs)) (upd (upd H1 dx (.own x)) x (.ins C dx [])) (fun v H2 => v = .non ∧ Q (.ref x) H2) fun c d H' => Wx c d σ H'
def tMethG (C : Addr) (m : Str) (sp : Sp) (dvs : List V) (Wx : WX) (ta : TE) (t : TA) : TE := fun σ H Q => ta σ H fun x H1 => ∃ a dx fs, x = .ref a ∧ H1 a = some (.ins C dx fs) ∧ fs.lookup m = none ∧
  t σ H1 fun vs H2 => sp (x :: (vs ++ dvs)) H2 Q fun c d H' => Wx c d σ H'
section
variable {X : Cx} {Wx : WX} {k : Nat} {f C : Addr} {fd : FuncData} {ps : List Str} {sp : Sp} {dvs : List V} {ds : List Value} {x m : Str} {p pos apos : Pos} {e o : Expr} {es : List Expr} {ta : TE} {t : TA}
theorem run_g {pins : List (Addr × Obj)} {σ : St} {H : Hp} {s : Shared} {Q : VK} {us : List Value} {vs : List V} (F : FnG X.prog X.w X.K X.mg X.base k f fd ps sp) (hr : Room k X.A) (hg : X.A.guards = some []) (tk : Takes X Wx)
    (hb : Binds X.K fd ps ds) (hd : Vals dvs ds) (I : Inv X pins σ H s) (r : Vals vs us) (h : sp (vs ++ dvs) H Q fun c d H' => Wx c d σ H') :
    wpAny (model X.prog X.w) X.A (call (.ref f) us) (EP X pins σ Q) X.xe s := by
  have r2 := r.append hd
  have hl : (us ++ ds).length = ps.length := r2.length.symm.trans (F.len _ _ _ _ h)
  refine wpAny_call (codeAny_mono (F.go X.A X.stack s H ⟨us, []⟩ (us ++ ds) (vs ++ dvs) Q _ hr hg I.env0 (hb s us I.kIn hl) r2 h) ?_)
  intro r s' hq
  cases r with
  | error e => exact tk _ _ (XE.of_call I (fun _ _ _ z => z) hq)
  | ok fl =>
    cases fl with
    | ret u => exact I.after hq
    | next => exact hq.elim
    | brk => exact hq.elim
    | cont => exact hq.elim
theorem pe_callG (F : FnG X.prog X.w X.K X.mg X.base k f fd ps sp) (hr : Room k X.A) (hgu : X.A.guards = some []) (tk : Takes X Wx) (hg : Gl X x) (hm : X.mg x = some (.ref f)) (hk : PySem.W.keepIn X.K (.ref f) = true) (hb : Binds X.K fd ps ds) (hd : Vals dvs ds)
    (ha : PA X (e :: es) t) (hdb : (x == ("__debug__" : Str)) = false) (he : starEach (e :: es) X.env = (false, eval e X.env) :: starEach es X.env) (hpl : (backTo pos (starEach es X.env)).any (·.1) = false) :
    PE X (.Call (.Name x p) (e :: es) [] pos) (tCallG sp dvs Wx t) := by
  refine ⟨fun pins s σ H Q I h => wpAny_Call_Name_kw (ld_glob I hg hm ?_ hdb)⟩
  refine PySem.W.callWith_K (h₀ := X.base) I.ok.mod.kin hk (thn (ha.run pos pins s σ H _ I h) ?_) he hpl
  rintro us s1 ⟨vs, H1, I1, r, q⟩
  exact ⟨I1.kIn, run_g F hr hgu tk hb hd I1 r q⟩
theorem pe_callG0 (F : FnG X.prog X.w X.K X.mg X.base k f fd ps sp) (hr : Room k X.A) (hgu : X.A.guards = some []) (tk : Takes X Wx) (hg : Gl X x) (hm : X.mg x = some (.ref f)) (hk : PySem.W.keepIn X.K (.ref f) = true) (hb : Binds X.K fd ps ds) (hd : Vals dvs ds)
    (hdb : (x == ("__debug__" : Str)) = false) : PE X (.Call (.Name x p) [] [] pos) (tCallG sp dvs Wx tNil) :=
  ⟨fun pins s σ H Q I h => wpAny_Call_Name_kw (ld_glob I hg hm (PySem.W.callWith_K0 I.kIn hk (run_g (us := []) F hr hgu tk hb hd I .nil h)) hdb)⟩
theorem run_makeG {pins : List (Addr × Obj)} {σ : St} {H : Hp} {s : Shared} {Q : VK} {us : List Value} {vs : List V} (M : Mk X.K C f) (F : FnG X.prog X.w X.K X.mg X.base k f fd ps sp) (hr : Room (k + 1) X.A) (hg : X.A.guards = some []) (tk : Takes X Wx)
    (hb : Binds X.K fd ps ds) (hd : Vals dvs ds) (I : Inv X pins σ H s) (r : Vals vs us)
    (h : ∀ x dx, H x = none → H dx = none → dx ≠ x → sp (.ref x :: (vs ++ dvs)) (upd (upd H dx (.own x)) x (.ins C dx [])) (fun v H2 => v = .non ∧ Q (.ref x) H2) fun c d H' => Wx c d σ H') :
    wpAny (model X.prog X.w) X.A (call (.ref C) us) (EP X pins σ Q) X.xe s := by
  have hq := h (s.heap.objs.size + 1) s.heap.objs.size (I.hok.fresh (Nat.le_succ _)) (I.hok.fresh (Nat.le_refl _)) (Nat.ne_of_lt (Nat.lt_succ_self _))
  have I2 := Inv.made (C := C) I
  have r2 : Vals (V.ref (s.heap.objs.size + 1) :: (vs ++ dvs)) (Value.ref (s.heap.objs.size + 1) :: (us ++ ds)) := .cons rfl (r.append hd)
  have hl : (Value.ref (s.heap.objs.size + 1) :: us ++ ds).length = ps.length := r2.length.symm.trans (F.len _ _ _ _ hq)
  have e0 := I2.env0.make C us []
  have go := F.go _ X.stack _ _ ⟨Value.ref (s.heap.objs.size + 1) :: us, []⟩ (Value.ref (s.heap.objs.size + 1) :: (us ++ ds)) _ _ _ (hr.make C us [])
    (by simp [Around.under, Code.guards, Code.isGuard, pushGuards, guardIds, hg]) e0 (hb _ (Value.ref (s.heap.objs.size + 1) :: us) I2.kIn hl) r2 hq
  refine wpAny_call (make_map (f := f) I.kIn M.makes M.init (beq_iff_eq.mp M.fn) (codeAny_mono go ?_))
  intro r s' hq'
  cases r with
  | error e => exact tk _ _ (XE.of_call I2 (fun _ _ _ z => z) hq')
  | ok fl =>
    cases fl with
    | ret u =>
      obtain ⟨v, H', I3, rv, ev, q3⟩ := I2.after hq'
      subst ev
      exact ⟨rv, V.ref (s.heap.objs.size + 1), H', I3, rfl, q3⟩
    | next => exact hq'.elim
    | brk => exact hq'.elim
    | cont => exact hq'.elim
theorem pe_makeG (M : Mk X.K C f) (F : FnG X.prog X.w X.K X.mg X.base k f fd ps sp) (hr : Room (k + 1) X.A) (hgu : X.A.guards = some []) (tk : Takes X Wx) (hg : Gl X x) (hm : X.mg x = some (.ref C)) (hb : Binds X.K fd ps ds) (hd : Vals dvs ds)
    (ha : PA X (e :: es) t) (hdb : (x == ("__debug__" : Str)) = false) (he : starEach (e :: es) X.env = (false, eval e X.env) :: starEach es X.env) (hpl : (backTo pos (starEach es X.env)).any (·.1) = false) :
    PE X (.Call (.Name x p) (e :: es) [] pos) (tMakeG C sp dvs Wx t) := by
  refine ⟨fun pins s σ H Q I h => wpAny_Call_Name_kw (ld_glob I hg hm ?_ hdb)⟩
  refine PySem.W.callWith_K (h₀ := X.base) I.ok.mod.kin M.kp (thn (ha.run pos pins s σ H _ I h) ?_) he hpl
  rintro us s1 ⟨vs, H1, I1, r, q⟩
  exact ⟨I1.kIn, run_makeG M F hr hgu tk hb hd I1 r q⟩
theorem pe_makeG0 (M : Mk X.K C f) (F : FnG X.prog X.w X.K X.mg X.base k f fd ps sp) (hr : Room (k + 1) X.A) (hgu : X.A.guards = some []) (tk : Takes X Wx) (hg : Gl X x) (hm : X.mg x = some (.ref C)) (hb : Binds X.K fd ps ds) (hd : Vals dvs ds)
    (hdb : (x == ("__debug__" : Str)) = false) : PE X (.Call (.Name x p) [] [] pos) (tMakeG C sp dvs Wx tNil) :=
  ⟨fun pins s σ H Q I h => wpAny_Call_Name_kw (ld_glob I hg hm (PySem.W.callWith_K0 I.kIn M.kp (run_makeG (us := []) M F hr hgu tk hb hd I .nil h)) hdb)⟩
/-- what the tree of a method call is -/
def MTree (X : Cx) (o : Expr) (m : Str) (apos pos : Pos) (es : List Expr) (pl : Sem Bool) : Prop :=
  eval (.Call (.Attribute o m apos) es [] pos) X.env = (do
    let ov ← eval o X.env
    standAt apos.atName
    let (f, first) ← holding [ov] (getMethod ov m pl)
    callWith pos f first (backTo pos (starEach es X.env)) (backToKw pos (keywordEach [] X.env)))
theorem pe_methG {pl : Sem Bool} (he : PE X o ta) (c : Cls X.K C) (hm : Meth X.K C m f) (F : FnG X.prog X.w X.K X.mg X.base k f fd ps sp) (hr : Room k X.A) (hgu : X.A.guards = some []) (tk : Takes X Wx) (hb : Binds X.K fd ps ds) (hd : Vals dvs ds) (ha : PA X (e :: es) t)
    (hst : starEach (e :: es) X.env = (false, eval e X.env) :: starEach es X.env) (hpl : (backTo pos (starEach es X.env)).any (·.1) = false) (ht : MTree X o m apos pos (e :: es) pl) :
    PE X (.Call (.Attribute o m apos) (e :: es) [] pos) (tMethG C m sp dvs Wx ta t) := by
  refine ⟨fun pins s σ H Q I h => PySem.W.methodCall_KW (pl := pl) (thn (he.run pins s σ H _ I h) ?_) ht⟩
  rintro u s1 ⟨x, H1, I1, rx, a, dx, fs, ex, ea, l, q⟩
  subst ex
  obtain rfl : u = Value.ref a := rx
  refine getmeth_ok I1 ea c hm l (PySem.W.callWith_K (first := [.ref a]) (h₀ := X.base) I.ok.mod.kin hm.kp (thn (ha.run pos pins s1 σ H1 _ I1 q) ?_) hst hpl)
  rintro us s2 ⟨vs, H2, I2, r, q2⟩
  exact ⟨I2.kIn, run_g (us := .ref a :: us) (vs := .ref a :: vs) F hr hgu tk hb hd I2 (.cons rfl r) q2⟩
theorem pe_methG0 {pl : Sem Bool} (he : PE X o ta) (c : Cls X.K C) (hm : Meth X.K C m f) (F : FnG X.prog X.w X.K X.mg X.base k f fd ps sp) (hr : Room k X.A) (hgu : X.A.guards = some []) (tk : Takes X Wx) (hb : Binds X.K fd ps ds) (hd : Vals dvs ds)
    (ht : MTree X o m apos pos [] pl) : PE X (.Call (.Attribute o m apos) [] [] pos) (tMethG C m sp dvs Wx ta tNil) := by
  refine ⟨fun pins s σ H Q I h => PySem.W.methodCall_KW (pl := pl) (thn (he.run pins s σ H _ I h) ?_) ht⟩
  rintro u s1 ⟨x, H1, I1, rx, a, dx, fs, ex, ea, l, q⟩
  subst ex
  obtain rfl : u = Value.ref a := rx
  exact getmeth_ok I1 ea c hm l (PySem.W.callWith_K0 (first := [.ref a]) I1.kIn hm.kp (run_g (us := [.ref a]) (vs := [.ref a]) F hr hgu tk hb hd I1 (.cons rfl .nil) q))
end

/-! what a function of data promises -/
inductive FR where
  | ret (w : W) (io : List W) | exc (c : Str) (ns : List Str) (ds : List D) (io : List W) | stuck
abbrev Fn := List W → FR
/-- the arguments stand -/
def Args0 (K : PySem.W.Frag) (g : Gh) (ws : List W) (vs : List V) (H : Hp) : Prop := Rel K g (ws.map some) (vs.map some) H
/-- behind a call: what is frozen has grown, the things handed in stand where they stood -/
structure Back (K : PySem.W.Frag) (g : Gh) (ws : List W) (vs : List V) (H : Hp) (io : List W) (Z' H' : Hp) : Prop where
  ext : Ext g H ⟨Z', g.own, g.io⟩ H'
  sub : Sub Z' H'
  nz : ∀ i a, g.own i = some a → Z' a = none
  io : ∀ i a, g.own i = some a → ∃ w v, io[i]? = some w ∧ vs[i]? = some v ∧ RepW K Z' H' w v (some a)
def spF (K : PySem.W.Frag) (F : Fn) : Sp := fun vs H Q E => ∃ (g : Gh) (ws : List W), ws.length = vs.length ∧ Args0 K g ws vs H ∧
  match F ws with
  | .ret w io => ∀ v H' Z' o, Back K g ws vs H io Z' H' → RepW K Z' H' w v o → (∀ a, o = some a → Z' a = none ∧ (∀ i, g.own i ≠ some a) ∧ H a = none) → Q v H'
  | .exc c ns ds io => ∀ dx us H' Z', Back K g ws vs H io Z' H' → H' dx = some (.xd (ns.zip us)) → ns.length = us.length → RepL K Z' ds us → E (.ref (He.ga K c)) (some dx) H'
  | .stuck => False
end Spl

namespace Spl
open PySem PySem.Spec L2

/-! operations on data: what they give -/
mutual
def D.py : D → PyData
  | .non => .none
  | .bl b => .bool b
  | .int i => .int i
  | .str x => .str x
  | .tup xs => .tuple (pyL xs)
  | .lst xs => .list (pyL xs)
  | .dic _ _ => .dict []
  | .obj _ _ _ => .dict []
  | .scr _ => .dict []
  | .fn _ => .dict []
def pyL : List D → List PyData
  | [] => []
  | d :: ds => d.py :: pyL ds
end
theorem pyL_map : ∀ xs : List D, pyL xs = xs.map D.py
  | [] => rfl
  | d :: ds => by rw [pyL, pyL_map ds]; rfl
inductive B | add | sub | mul | fdiv | mod | pow
inductive C | lt | le | gt | ge | eq | ne | isN | notN | inn | notin
def mulOk (i j : Int) : Bool := decide (i.natAbs < 2 ^ 64) || decide (j.natAbs < 2 ^ 64) || decide (i.natAbs.log2 + j.natAbs.log2 < 1000000)
def addD : D → D → Option R
  | .int i, .int j => some (.val (.int (i + j)))
  | .lst xs, .lst ys => if xs.length + ys.length ≤ sizeLine then some (.tmp (.lst (xs ++ ys))) else none
  | .tup xs, .tup ys => if xs.length + ys.length ≤ sizeLine then some (.val (.tup (xs ++ ys))) else none
  | .str x, .str y => if x.length + y.length ≤ sizeLine then some (.val (.str (x ++ y))) else none
  | _, _ => none
def subD : D → D → Option R
  | .int i, .int j => some (.val (.int (i - j)))
  | _, _ => none
/-- a list's multiple that is made; the test is not to be run -/
def inM (k : Int) : Prop := -(2 ^ 63) ≤ k ∧ k < 2 ^ 63
noncomputable instance {k : Int} : Decidable (inM k) := Classical.propDecidable _
noncomputable def mulD : D → D → Option R
  | .int i, .int j => if mulOk i j = true then some (.val (.int (i * j))) else none
  | .lst xs, .int k => if inM k ∧ xs.length * k.toNat ≤ sizeLine then some (.tmp (.lst (List.replicate k.toNat xs).flatten)) else none
  | .tup xs, .int k => if 0 < xs.length ∧ 2 ≤ k ∧ k ≤ 1000 ∧ xs.length ≤ 1000 then some (.val (.tup (List.replicate k.toNat xs).flatten)) else none
  | _, _ => none
def fdivD : D → D → Option R
  | .int i, .int j => if 0 < j ∧ j.natAbs.log2 < 9000 then some (.val (.int (i / j))) else none
  | _, _ => none
def modD : D → D → Option R
  | .int i, .int j => if 0 < j then some (.val (.int (i % j))) else none
  | _, _ => none
def powD : D → D → Option R
  | .int i, .int j => if 0 ≤ j ∧ j ≤ 1000000 ∧ i.natAbs < 2 ^ 64 then some (.val (.int (i ^ j.toNat))) else none
  | _, _ => none
noncomputable def B.op : B → D → D → Option R
  | .add => addD
  | .sub => subD
  | .mul => mulD
  | .fdiv => fdivD
  | .mod => modD
  | .pow => powD
def D.intsOf : List D → Option (List Int)
  | [] => some []
  | .int i :: r => (D.intsOf r).map (i :: ·)
  | _ :: _ => none
def bl (b : Bool) : Option R := some (.val (.bl b))
def ltD : D → D → Option R
  | .int i, .int j => bl (decide (i < j))
  | .str x, .str y => bl (decide (x.cps.toList < y.cps.toList))
  | .tup xs, .tup ys => (D.intsOf xs).bind fun a => (D.intsOf ys).bind fun b => bl (HT.lexLt a b)
  | _, _ => none
def leD : D → D → Option R
  | .int i, .int j => bl (decide (i ≤ j))
  | _, _ => none
def gtD : D → D → Option R
  | .int i, .int j => bl (decide (j < i))
  | _, _ => none
def geD : D → D → Option R
  | .int i, .int j => bl (decide (j ≤ i))
  | _, _ => none
def D.strs : D → D → Option (Str × Str)
  | .str x, .str y => some (x, y)
  | _, _ => none
theorem strs_eq : ∀ {d e : D} {x y : Str}, D.strs d e = some (x, y) → d = .str x ∧ e = .str y := by
  intro d e x y h
  unfold D.strs at h
  split at h
  · cases h; exact ⟨rfl, rfl⟩
  · cases h
def eqD (d e : D) : Option R := match D.strs d e with
  | some (x, y) => bl (decide (x = y))
  | none => if SeqAt.shaped d.py = true ∧ SeqAt.shaped e.py = true then bl (PyData.eqv d.py e.py) else none
def neD (d e : D) : Option R := match D.strs d e with
  | some (x, y) => bl (!decide (x = y))
  | none => if SeqAt.shaped d.py = true ∧ SeqAt.shaped e.py = true then bl (!PyData.eqv d.py e.py) else none
def D.isNon : D → Bool
  | .non => true
  | _ => false
def isND (d : D) : D → Option R
  | .non => bl d.isNon
  | _ => none
def notND (d : D) : D → Option R
  | .non => bl (!d.isNon)
  | _ => none
def inD (d : D) : D → Option R
  | .lst ys => if SeqAt.shaped d.py = true ∧ SeqAt.shaped (.list (pyL ys)) = true then bl ((pyL ys).any fun z => PyData.eqv z d.py) else none
  | _ => none
def notinD (d : D) : D → Option R
  | .lst ys => if SeqAt.shaped d.py = true ∧ SeqAt.shaped (.list (pyL ys)) = true then bl (!(pyL ys).any fun z => PyData.eqv z d.py) else none
  | _ => none
def C.op : C → D → D → Option R
  | .lt => ltD
  | .le => leD
  | .gt => gtD
  | .ge => geD
  | .eq => eqD
  | .ne => neD
  | .isN => isND
  | .notN => notND
  | .inn => inD
  | .notin => notinD

section
variable {K : PySem.W.Frag} {Z H : Hp}
theorem RepU.int {i : Int} {v : V} (h : RepU K Z H (.int i) v) : v = .int i := h
/-- data by the layer's own relation -/
theorem notDict {d : PyData} (h : SeqAt.shaped d = true) : d.canLay0 = true := (Bool.and_eq_true_iff.mp h).1
mutual
theorem RepD.dp : ∀ {d : D} {v : V}, d.py.canLay0 = true → RepD K H d v → Dp K H v d.py
  | .non, v, _, h => by unfold RepD at h; subst h; exact .non
  | .bl b, v, _, h => by unfold RepD at h; subst h; exact .bl b
  | .int i, v, _, h => by unfold RepD at h; subst h; exact .int i
  | .str x, v, _, h => by unfold RepD at h; subst h; exact .str x
  | .tup xs, v, l, h => by
    unfold RepD at h
    obtain ⟨a, vs, rfl, q, r⟩ := h
    exact .tup q (RepL.dp (by simpa [D.py, PyData.canLay0] using l) r)
  | .lst xs, v, l, h => by
    unfold RepD at h
    obtain ⟨a, vs, rfl, q, r⟩ := h
    exact .lst (.of q) (RepL.dp (by simpa [D.py, PyData.canLay0] using l) r)
  | .dic ks ds, v, l, h => by simp [D.py, PyData.canLay0] at l
  | .obj c ns ds, v, l, h => by simp [D.py, PyData.canLay0] at l
  | .scr ns, v, l, h => by simp [D.py, PyData.canLay0] at l
  | .fn q, v, l, h => by simp [D.py, PyData.canLay0] at l
theorem RepL.dp : ∀ {ds : List D} {vs : List V}, PyData.canLayAll0 (pyL ds) = true → RepL K H ds vs → DpAll K H vs (pyL ds)
  | [], vs, _, h => by unfold RepL at h; subst h; exact .nil
  | d :: ds, vs, l, h => by
    unfold RepL at h
    obtain ⟨v, r, rfl, h1, h2⟩ := h
    have l2 : d.py.canLay0 = true ∧ PyData.canLayAll0 (pyL ds) = true := by simpa [pyL, PyData.canLayAll0] using l
    exact .cons (RepD.dp l2.1 h1) (RepL.dp l2.2 h2)
end
theorem RepL.replicate {xs : List D} {vs : List V} (r : RepL K Z xs vs) : ∀ n, RepL K Z (List.replicate n xs).flatten (List.replicate n vs).flatten
  | 0 => .nil
  | n + 1 => by
    rw [List.replicate_succ, List.replicate_succ, List.flatten_cons, List.flatten_cons]
    exact r.append (RepL.replicate r n)
theorem RepL.ints : ∀ {xs : List D} {vs : List V} {ns : List Int}, RepL K Z xs vs → D.intsOf xs = some ns → vs = ns.map V.int
  | [], vs, ns, h, e => by unfold RepL at h; subst h; cases e; rfl
  | d :: xs, vs, ns, h, e => by
    unfold RepL at h
    obtain ⟨v, r, rfl, h1, h2⟩ := h
    cases d with
    | int i =>
      have e : (D.intsOf xs).map (i :: ·) = some ns := e
      obtain ⟨ms, e1, rfl⟩ := Option.map_eq_some_iff.mp e
      unfold RepD at h1
      subst h1
      rw [h2.ints e1]
      rfl
    | _ => cases e
end
theorem OpR.imp {X : Cx} {f : Value → Value → Sem Value} {r r' : R2} (h : OpR X f r) (i : ∀ x y H Q, r' x y H Q → r x y H Q) : OpR X f r' := fun pins s σ H x y v u Q I rx ry q => h pins s σ H x y v u Q I rx ry (i x y H Q q)

section
variable {X : Cx}
/-- by the kinds of both -/
theorem OpR.split {f : Value → Value → Sem Value} {o : D → D → Option R}
    (h : ∀ d e r, o d e = some r → OpR X f (fun x y H Q => ∃ Z, Sub Z H ∧ RepU X.K Z H d x ∧ RepU X.K Z H e y ∧ ∀ v H' Z', NewOk Z H Z' H' → RepN X.K H Z' H' r v → Q v H')) : OpR X f (rO2 X.K o) := by
  intro pins s σ H x y v u Q I rx ry ⟨Z, d, e, r, h1, h2, h3, h4, h5⟩
  exact h d e r h4 pins s σ H x y v u Q I rx ry ⟨Z, h1, h2, h3, h5⟩
theorem OpR.never {f : Value → Value → Sem Value} {r : R2} (h : ∀ x y H Q, ¬ r x y H Q) : OpR X f r := fun pins s σ H x y v u Q I rx ry q => absurd q (h x y H Q)
theorem mulOk.ok {i j : Int} (h : mulOk i j = true) : IntMulOk i j := by
  unfold mulOk at h
  simp only [Bool.or_eq_true, decide_eq_true_eq] at h
  rcases h with (h | h) | h
  · exact CMul.ok (.inl ⟨by omega, by omega⟩)
  · exact CMul.ok (.inr ⟨by omega, by omega⟩)
  · exact CMulW.ok h
theorem op_mulA : OpR X (binaryOp .Mult) (rI (fun i j => mulOk i j = true) fun i j => .int (i * j)) := opI fun _ _ _ _ _ _ _ hc q => PyProof.Rows.mul_int q (mulOk.ok hc)
/-- a scalar comes out -/
theorem q_val {K : PySem.W.Frag} {Z H : Hp} {Q : VK} {d : D} {v : V} (s : Sub Z H) (h : ∀ v H' Z', NewOk Z H Z' H' → RepN K H Z' H' (.val d) v → Q v H') (r : RepD K Z d v) : Q v H := h v H Z (.refl s) r
theorem q_lst {K : PySem.W.Frag} {Z H : Hp} {Q : VK} {xs : List D} {vs : List V} (s : Sub Z H) (h : ∀ v H' Z', NewOk Z H Z' H' → RepN K H Z' H' (.tmp (.lst xs)) v → Q v H') (r : RepL K Z xs vs) : ∀ p, H p = none → Q (.ref p) (upd H p (.lst vs)) :=
  fun p hp => h _ _ _ (NewOk.fresh s hp).1 (RepN.lst s hp r)
theorem q_tup {K : PySem.W.Frag} {Z H : Hp} {Q : VK} {xs : List D} {vs : List V} (s : Sub Z H) (h : ∀ v H' Z', NewOk Z H Z' H' → RepN K H Z' H' (.val (.tup xs)) v → Q v H') (r : RepL K Z xs vs) : ∀ p, H p = none → Q (.ref p) (upd H p (.tup vs)) :=
  fun p hp => h _ _ _ (NewOk.frozen s hp) (RepN.tup s hp r)
theorem repI {K : PySem.W.Frag} {Z : Hp} {i : Int} : RepD K Z (.int i) (.int i) := by unfold RepD; rfl
theorem repB {K : PySem.W.Frag} {Z : Hp} {i : Bool} : RepD K Z (.bl i) (.bl i) := by unfold RepD; rfl
theorem repS {K : PySem.W.Frag} {Z : Hp} {i : Str} : RepD K Z (.str i) (.str i) := by unfold RepD; rfl
theorem repN {K : PySem.W.Frag} {Z : Hp} : RepD K Z .non .non := by unfold RepD; rfl

/-- + on all that it is told for -/
theorem op_addD : OpR X (binaryOp .Add) (rO2 X.K addD) := by
  refine OpR.split fun d e r h => ?_
  unfold addD at h
  split at h
  · cases h
    exact OpR.imp op_add fun x y H Q ⟨Z, s, hx, hy, q⟩ => ⟨_, _, hx, hy, q_val s q repI⟩
  · split at h <;> cases h
    rename_i xs ys hl
    exact OpR.imp op_cat fun x y H Q ⟨Z, s, ⟨a, vs, ex, lx, rx⟩, ⟨b, us, ey, ly, ry⟩, q⟩ =>
      ⟨a, b, vs, us, ex, ey, lx, ly, by rw [← rx.length, ← ry.length]; exact hl, q_lst s q (rx.append ry)⟩
  · split at h <;> cases h
    rename_i xs ys hl
    refine OpR.imp op_catA ?_
    rintro x y H Q ⟨Z, s, ⟨a, vs, ex, lx, rx⟩, ⟨b, us, ey, ly, ry⟩, q⟩
    refine ⟨a, b, vs, us, ex, ey, s.sqT lx, s.sqT ly, by rw [← rx.length, ← ry.length]; exact hl, fun e => ?_, fun n e => ?_, fun _ _ => q_tup s q (rx.append ry)⟩
    · subst e
      have ex0 : xs = [] := List.eq_nil_of_length_eq_zero rx.length
      subst ex0
      exact q_val s q (by unfold RepD; exact ⟨b, us, rfl, ly, ry⟩)
    · subst e
      have ey0 : ys = [] := List.eq_nil_of_length_eq_zero ry.length
      subst ey0
      exact q_val s q (by unfold RepD; rw [List.append_nil]; exact ⟨a, vs, rfl, lx, rx⟩)
  · split at h <;> cases h
    rename_i xs ys hl
    exact OpR.imp op_add_str fun x y H Q ⟨Z, s, hx, hy, q⟩ => ⟨_, _, hx, hy, hl, q_val s q repS⟩
  · cases h
theorem op_subD : OpR X (binaryOp .Sub) (rO2 X.K subD) := by
  refine OpR.split fun d e r h => ?_
  unfold subD at h
  split at h <;> cases h
  exact OpR.imp op_sub fun x y H Q ⟨Z, s, hx, hy, q⟩ => ⟨_, _, hx, hy, q_val s q repI⟩
theorem op_mulD : OpR X (binaryOp .Mult) (rO2 X.K mulD) := by
  refine OpR.split fun d e r h => ?_
  unfold mulD at h
  split at h
  · split at h <;> cases h
    rename_i hl
    exact OpR.imp op_mulA fun x y H Q ⟨Z, s, hx, hy, q⟩ => ⟨_, _, hx, hy, hl, q_val s q repI⟩
  · split at h <;> cases h
    rename_i hl
    exact OpR.imp op_rep fun x y H Q ⟨Z, s, ⟨a, vs, ex, lx, rx⟩, hy, q⟩ =>
      ⟨a, _, vs, ex, hy, lx, hl.1.1, hl.1.2, by rw [← rx.length]; exact hl.2, q_lst s q (rx.replicate _)⟩
  · split at h <;> cases h
    rename_i hl
    refine OpR.imp op_repT ?_
    rintro x y H Q ⟨Z, s, ⟨a, vs, ex, lx, rx⟩, hy, q⟩
    have e := rx.length
    exact ⟨a, _, vs, ex, hy, s.sqT lx, (fun z => by rw [z, List.length_nil] at e; omega), hl.2.1, hl.2.2.1, by omega, q_tup s q (rx.replicate _)⟩
  · cases h
theorem op_fdivD : OpR X (binaryOp .FloorDiv) (rO2 X.K fdivD) := by
  refine OpR.split fun d e r h => ?_
  unfold fdivD at h
  split at h
  · split at h <;> cases h
    rename_i hl
    exact OpR.imp op_fdivW fun x y H Q ⟨Z, s, hx, hy, q⟩ => ⟨_, _, hx, hy, hl, q_val s q repI⟩
  · cases h
theorem op_modD : OpR X (binaryOp .Mod) (rO2 X.K modD) := by
  refine OpR.split fun d e r h => ?_
  unfold modD at h
  split at h
  · split at h <;> cases h
    rename_i hl
    exact OpR.imp op_mod fun x y H Q ⟨Z, s, hx, hy, q⟩ => ⟨_, _, hx, hy, hl, q_val s q repI⟩
  · cases h
theorem op_powD : OpR X (binaryOp .Pow) (rO2 X.K powD) := by
  refine OpR.split fun d e r h => ?_
  unfold powD at h
  split at h
  · split at h <;> cases h
    rename_i hl
    exact OpR.imp op_pow fun x y H Q ⟨Z, s, hx, hy, q⟩ => ⟨_, _, hx, hy, hl, q_val s q repI⟩
  · cases h
theorem op_ltD (hu : X.A.units < cLine) : OpR X (compareOp .Lt) (rO2 X.K ltD) := by
  refine OpR.split fun d e r h => ?_
  unfold ltD at h
  split at h
  · cases h
    exact OpR.imp op_lt fun x y H Q ⟨Z, s, hx, hy, q⟩ => ⟨_, _, hx, hy, q_val s q repB⟩
  · cases h
    exact OpR.imp op_lt_str fun x y H Q ⟨Z, s, hx, hy, q⟩ => ⟨_, _, hx, hy, q_val s q repB⟩
  · obtain ⟨ns, e1, h⟩ := Option.bind_eq_some_iff.mp h
    obtain ⟨ms, e2, h⟩ := Option.bind_eq_some_iff.mp h
    cases h
    refine OpR.imp (op_ltT hu) ?_
    rintro x y H Q ⟨Z, s, ⟨a, vs, ex, lx, rx⟩, ⟨b, us, ey, ly, ry⟩, q⟩
    exact ⟨a, b, ns, ms, ex, ey, by rw [← rx.ints e1]; exact s.sqT lx, by rw [← ry.ints e2]; exact s.sqT ly, q_val s q repB⟩
  · cases h
theorem op_leD : OpR X (compareOp .LtE) (rO2 X.K leD) := by
  refine OpR.split fun d e r h => ?_
  unfold leD at h
  split at h <;> cases h
  exact OpR.imp op_le fun x y H Q ⟨Z, s, hx, hy, q⟩ => ⟨_, _, hx, hy, q_val s q repB⟩
theorem op_gtD : OpR X (compareOp .Gt) (rO2 X.K gtD) := by
  refine OpR.split fun d e r h => ?_
  unfold gtD at h
  split at h <;> cases h
  exact OpR.imp op_gt fun x y H Q ⟨Z, s, hx, hy, q⟩ => ⟨_, _, hx, hy, q_val s q repB⟩
theorem op_geD : OpR X (compareOp .GtE) (rO2 X.K geD) := by
  refine OpR.split fun d e r h => ?_
  unfold geD at h
  split at h <;> cases h
  exact OpR.imp op_ge fun x y H Q ⟨Z, s, hx, hy, q⟩ => ⟨_, _, hx, hy, q_val s q repB⟩
theorem op_eqDD (hu : X.A.units + 64 < cLine) : OpR X (compareOp .Eq) (rO2 X.K eqD) := by
  refine OpR.split fun d e r h => ?_
  unfold eqD at h
  split at h
  · rename_i x y es
    obtain ⟨rfl, rfl⟩ := strs_eq es
    cases h
    refine OpR.imp op_eq fun x' y' H Q ⟨Z, s, hx, hy, q⟩ => ?_
    have hx : x' = V.str x := hx
    have hy : y' = V.str y := hy
    subst hx hy
    refine ⟨rfl, ?_⟩
    have e : decide (V.str x = V.str y) = decide (x = y) := by rw [Bool.eq_iff_iff]; simp
    rw [e]
    exact q_val s q repB
  split at h <;> cases h
  rename_i hs
  exact OpR.imp (op_eqD hu) fun x y H Q ⟨Z, s, hx, hy, q⟩ => ⟨_, _, (hx.repD s).dp (notDict hs.1), (hy.repD s).dp (notDict hs.2), hs.1, hs.2, q_val s q repB⟩
theorem op_neDD (hu : X.A.units + 64 < cLine) : OpR X (compareOp .NotEq) (rO2 X.K neD) := by
  refine OpR.split fun d e r h => ?_
  unfold neD at h
  split at h
  · rename_i x y es
    obtain ⟨rfl, rfl⟩ := strs_eq es
    cases h
    refine OpR.imp op_ne fun x' y' H Q ⟨Z, s, hx, hy, q⟩ => ?_
    have hx : x' = V.str x := hx
    have hy : y' = V.str y := hy
    subst hx hy
    refine ⟨rfl, ?_⟩
    have e : decide (V.str x = V.str y) = decide (x = y) := by rw [Bool.eq_iff_iff]; simp
    rw [e]
    exact q_val s q repB
  split at h <;> cases h
  rename_i hs
  exact OpR.imp (op_neD hu) fun x y H Q ⟨Z, s, hx, hy, q⟩ => ⟨_, _, (hx.repD s).dp (notDict hs.1), (hy.repD s).dp (notDict hs.2), hs.1, hs.2, q_val s q repB⟩
theorem RepU.isNon {K : PySem.W.Frag} {Z H : Hp} {d : D} {v : V} (h : RepU K Z H d v) : decide (v = .non) = d.isNon := by
  cases d with
  | non => cases h; rfl
  | bl b => cases h; rfl
  | int b => cases h; rfl
  | str b => cases h; rfl
  | tup xs => obtain ⟨a, _, rfl, _⟩ := h; rfl
  | lst xs => obtain ⟨a, _, rfl, _⟩ := h; rfl
  | dic xs ys => obtain ⟨a, _, rfl, _⟩ := h; rfl
  | obj c xs ys => obtain ⟨a, _, _, rfl, _⟩ := h; rfl
  | scr xs => obtain ⟨a, rfl, _⟩ := h; rfl
  | fn q => cases h; rfl
theorem op_isND : OpR X (compareOp .Is) (rO2 X.K isND) := by
  refine OpR.split fun d e r h => ?_
  unfold isND at h
  split at h <;> cases h
  exact OpR.imp op_isN fun x y H Q ⟨Z, s, hx, hy, q⟩ => ⟨hy, by rw [hx.isNon]; exact q_val s q repB⟩
theorem op_notND : OpR X (compareOp .IsNot) (rO2 X.K notND) := by
  refine OpR.split fun d e r h => ?_
  unfold notND at h
  split at h <;> cases h
  exact OpR.imp op_notN fun x y H Q ⟨Z, s, hx, hy, q⟩ => ⟨hy, by rw [hx.isNon]; exact q_val s q repB⟩
theorem canList {ys : List D} (h : SeqAt.shaped (.list (pyL ys)) = true) : (D.lst ys).py.canLay0 = true := notDict h
theorem op_inDD (hu : X.A.units + 65 < cLine) : OpR X (compareOp .In) (rO2 X.K inD) := by
  refine OpR.split fun d e r h => ?_
  unfold inD at h
  split at h
  · split at h <;> cases h
    rename_i hs
    exact OpR.imp (op_inD hu) fun x y H Q ⟨Z, s, hx, hy, q⟩ => ⟨_, _, (hx.repD s).dp (notDict hs.1), (hy.repD s).dp (canList hs.2), hs.1, hs.2, q_val s q repB⟩
  · cases h
theorem op_notinDD (hu : X.A.units + 65 < cLine) : OpR X (compareOp .NotIn) (rO2 X.K notinD) := by
  refine OpR.split fun d e r h => ?_
  unfold notinD at h
  split at h
  · split at h <;> cases h
    rename_i hs
    exact OpR.imp (op_notInD hu) fun x y H Q ⟨Z, s, hx, hy, q⟩ => ⟨_, _, (hx.repD s).dp (notDict hs.1), (hy.repD s).dp (canList hs.2), hs.1, hs.2, q_val s q repB⟩
  · cases h
end
end Spl

namespace Spl
open PySem PySem.Spec L2

/-! freezing -/
theorem RepW.frozen {K : PySem.W.Frag} {Z H : Hp} {a : Addr} (hz : Z a = none) : ∀ {w : W} {v : V}, RepW K Z H w v (some a) → ∃ o, H a = some o ∧ RepD K (upd Z a o) w.view v := by
  have mono : ∀ o, ∀ b u, Z b = some u → upd Z a o b = some u := fun o b u h => by rw [upd_ne (ne_of_none h hz)]; exact h
  intro w v h
  cases w with
  | dat d => cases h.1
  | lst xs =>
    obtain ⟨b, vs, e, e1, e2, r⟩ := h
    cases e1
    refine ⟨_, e2, ?_⟩
    unfold W.view RepD
    exact ⟨a, vs, e, upd_same, r.sub (.of (mono _))⟩
  | dic ks ds =>
    obtain ⟨b, vs, e, e1, ⟨l, n, e2⟩, r⟩ := h
    cases e1
    rcases e2 with ⟨kk, q, e2⟩ | ⟨kk, q, e2⟩
    · refine ⟨_, e2, ?_⟩
      unfold W.view RepD
      exact ⟨a, vs, e, ⟨l, n, .inl ⟨kk, q, .inl upd_same⟩⟩, r.sub (.of (mono _))⟩
    · refine ⟨_, e2, ?_⟩
      unfold W.view RepD
      exact ⟨a, vs, e, ⟨l, n, .inr ⟨kk, q, .inl upd_same⟩⟩, r.sub (.of (mono _))⟩
  | obj c ns ds =>
    obtain ⟨b, dx, vs, e, e1, e2, l, r⟩ := h
    cases e1
    refine ⟨_, e2, ?_⟩
    unfold W.view RepD
    exact ⟨a, dx, vs, e, upd_same, l, r.sub (.of (mono _))⟩
theorem sub_frz {Z H : Hp} {a : Addr} {o : HO} (s : Sub Z H) (ha : H a = some o) : Sub (upd Z a o) H := fun b u h => by
  by_cases e : b = a
  · subst e; rw [upd_same] at h; cases h; exact .inl ha
  · rw [upd_ne e] at h; exact s b u h
/-- a new thing is frozen -/
theorem Rel.frzTmp {K : PySem.W.Frag} {g0 g : Gh} {ρ : Rho} {σ : St} {H0 H : Hp} {a : Addr} {o : HO} (x : Ext g0 H0 g H) (G : Rel K g ρ σ H) (hz : g.Z a = none) (ho : ∀ i, g.own i ≠ some a) (h0 : H0 a = none) (ha : H a = some o) :
    Ext g0 H0 ⟨upd g.Z a o, g.own, g.io⟩ H ∧ Rel K ⟨upd g.Z a o, g.own, g.io⟩ ρ σ H := by
  have mono : ∀ b u, g.Z b = some u → upd g.Z a o b = some u := fun b u h => by rw [upd_ne (ne_of_none h hz)]; exact h
  refine ⟨⟨fun b u h => mono b u (x.z b u h), x.fr, x.fr2, fun b h => ?_, x.ow, x.io, x.ioo⟩, ⟨G.len, sub_frz G.sub ha, fun i w h => ?_, G.emp, fun i b h => ?_, G.inj⟩⟩
  · by_cases e : b = a
    · subst e; exact .inr (.inl h0)
    · have h : upd g.Z a o b ≠ none := h
      rw [upd_ne e] at h; exact x.nw b h
  · obtain ⟨v, e, r⟩ := G.at_ i w h
    exact ⟨v, e, r.stay mono fun _ _ _ q => q⟩
  · show upd g.Z a o b = none
    rw [upd_ne (fun e => ho i (by rw [← e]; exact h))]
    exact G.nz i b h
/-- a slot's thing is frozen -/
theorem Rel.frzOwn {K : PySem.W.Frag} {g : Gh} {ρ : Rho} {σ : St} {H : Hp} {i : Nat} {w : W} {a : Addr} {v : V} (G : Rel K g ρ σ H) (hw : look ρ i = some w) (hi : i ∉ g.io) (hv : σ[i]? = some (some v)) (r : RepW K g.Z H w v (some a)) (ho : g.own i = some a) :
    ∃ g', Ext g H g' H ∧ Rel K g' (ρ.set i (some (.dat w.view))) σ H ∧ RepD K g'.Z w.view v := by
  have hz := G.nz i a ho
  obtain ⟨o, ha, rd⟩ := r.frozen hz
  have mono : ∀ b u, g.Z b = some u → upd g.Z a o b = some u := fun b u h => by rw [upd_ne (ne_of_none h hz)]; exact h
  have il : i < ρ.length := by
    rw [look_eq] at hw
    exact (List.getElem?_eq_some_iff.mp hw).1
  have lk : ∀ j, look (ρ.set i (some (.dat w.view))) j = if j = i then some (.dat w.view) else look ρ j := fun j => by
    unfold look
    by_cases e : j = i
    · subst e; rw [if_pos rfl, List.getElem?_set_self il]; rfl
    · rw [if_neg e, List.getElem?_set_ne (Ne.symm e)]
  refine ⟨⟨upd g.Z a o, fun j => if j = i then none else g.own j, g.io⟩, ⟨mono, fun _ _ h _ => h, fun _ h => h, fun b h => ?_, fun j b h => ?_, rfl, fun j hj => if_neg (fun e : j = i => hi (e ▸ hj))⟩, ⟨by simp [G.len], sub_frz G.sub ha, fun j u h => ?_, fun j h => ?_, fun j b h => ?_, fun j k b h1 h2 => ?_⟩, rd⟩
  · by_cases e : b = a
    · subst e; exact .inr (.inr ⟨i, ho⟩)
    · have h : upd g.Z a o b ≠ none := h
      rw [upd_ne e] at h; exact .inl h
  · have h : (if j = i then none else g.own j) = some b := h
    split at h
    · cases h
    · exact .inl ⟨j, h⟩
  · rw [lk] at h
    show ∃ v, σ[j]? = some (some v) ∧ RepW K (upd g.Z a o) H u v (if j = i then none else g.own j)
    by_cases e : j = i
    · subst e
      rw [if_pos rfl] at h; cases h
      rw [if_pos rfl]
      exact ⟨v, hv, rfl, rd⟩
    · rw [if_neg e] at h ⊢
      obtain ⟨v, e, r⟩ := G.at_ j u h
      exact ⟨v, e, r.stay mono fun _ _ _ q => q⟩
  · rw [lk] at h
    show (if j = i then none else g.own j) = none
    by_cases e : j = i
    · rw [if_pos e]
    · rw [if_neg e] at h ⊢; exact G.emp j h
  · have h : (if j = i then none else g.own j) = some b := h
    show upd g.Z a o b = none
    split at h
    · cases h
    · rename_i e
      rw [upd_ne (fun q => e (G.inj j i b h (by rw [q]; exact ho)))]
      exact G.nz j b h
  · have h1 : (if j = i then none else g.own j) = some b := h1
    have h2 : (if k = i then none else g.own k) = some b := h2
    split at h1
    · cases h1
    · split at h2
      · cases h2
      · exact G.inj j k b h1 h2
theorem RepW.dat_of_none {K : PySem.W.Frag} {Z H : Hp} {w : W} {v : V} (h : RepW K Z H w v none) : ∃ d, w = .dat d ∧ RepD K Z d v := by
  cases w with
  | dat d => exact ⟨d, rfl, h.2⟩
  | lst xs => obtain ⟨_, _, _, e, _⟩ := h; cases e
  | dic ks ds => obtain ⟨_, _, _, e, _⟩ := h; cases e
  | obj c ns ds => obtain ⟨_, _, _, _, e, _⟩ := h; cases e
theorem RepW.own_of {K : PySem.W.Frag} {Z H : Hp} {w : W} {v : V} {o : Option Addr} (h : RepW K Z H w v o) : (∃ d, w = .dat d ∧ o = none) ∨ ∃ a, o = some a := by
  cases o with
  | none => obtain ⟨d, e, _⟩ := h.dat_of_none; exact .inl ⟨d, e, rfl⟩
  | some a => exact .inr ⟨a, rfl⟩

/-! a value made into frozen data -/
def frzW (io : List Nat) (i : Nat) (ρ : Rho) : Option W → Rs D
  | some (.dat d) => .ok d ρ
  | some (.lst xs) => if i ∈ io then .stuck else .ok (.lst xs) (ρ.set i (some (.dat (.lst xs))))
  | some (.dic ks vs) => if i ∈ io then .stuck else .ok (.dic ks vs) (ρ.set i (some (.dat (.dic ks vs))))
  | some (.obj c ns vs) => if i ∈ io then .stuck else .ok (.obj c ns vs) (ρ.set i (some (.dat (.obj c ns vs))))
  | none => .stuck
def freeze (io : List Nat) : R → Rho → Rs D
  | .val d, ρ => .ok d ρ
  | .tmp w, ρ => .ok w.view ρ
  | .place i, ρ => frzW io i ρ (look ρ i)
theorem frzW_own {K : PySem.W.Frag} {g0 g : Gh} {ρ : Rho} {σ : St} {H0 H : Hp} {i : Nat} {w : W} {v : V} {a : Addr} (x : Ext g0 H0 g H) (G : Rel K g ρ σ H) (e : look ρ i = some w) (hv : σ[i]? = some (some v)) (r : RepW K g.Z H w v (some a)) (ho : g.own i = some a)
    {z : Rs D} (hz : z = if i ∈ g0.io then .stuck else .ok w.view (ρ.set i (some (.dat w.view)))) : z = .stuck ∨ ∃ d ρ' g', z = .ok d ρ' ∧ Ext g0 H0 g' H ∧ Rel K g' ρ' σ H ∧ RepD K g'.Z d v := by
  by_cases hi : i ∈ g0.io
  · exact .inl (by rw [hz, if_pos hi])
  · obtain ⟨g', x', G', rd⟩ := G.frzOwn e (by rw [x.io]; exact hi) hv r ho
    exact .inr ⟨_, _, g', by rw [hz, if_neg hi], x.trans x', G', rd⟩
/-- freezing: no exception; what comes out is frozen -/
theorem freeze_ok {K : PySem.W.Frag} {g0 g : Gh} {ρ : Rho} {σ : St} {H0 H : Hp} {r : R} {v : V} (x : Ext g0 H0 g H) (G : Rel K g ρ σ H) (h : RepR K H0 g σ H r v) :
    freeze g0.io r ρ = .stuck ∨ ∃ d ρ' g', freeze g0.io r ρ = .ok d ρ' ∧ Ext g0 H0 g' H ∧ Rel K g' ρ' σ H ∧ RepD K g'.Z d v := by
  cases r with
  | val d => exact .inr ⟨d, ρ, g, rfl, x, G, h⟩
  | tmp w =>
    obtain ⟨a, r, hz, ho, h0⟩ := h
    obtain ⟨o, ha, rd⟩ := r.frozen hz
    obtain ⟨e1, e2⟩ := Rel.frzTmp x G hz ho h0 ha
    exact .inr ⟨_, ρ, _, rfl, e1, e2, rd⟩
  | place i =>
    have hv : σ[i]? = some (some v) := h
    show frzW g0.io i ρ (look ρ i) = .stuck ∨ ∃ d ρ' g', frzW g0.io i ρ (look ρ i) = .ok d ρ' ∧ _
    cases e : look ρ i with
    | none => exact .inl rfl
    | some w =>
      obtain ⟨u, hu, r⟩ := G.at_ i w e
      rw [hv] at hu; cases hu
      rcases r.own_of with ⟨d, rfl, ho⟩ | ⟨a, ho⟩
      · exact .inr ⟨d, ρ, g, rfl, x, G, r.2⟩
      · rw [ho] at r
        cases w with
        | dat d => cases r.1
        | lst xs => exact frzW_own x G e hv r ho rfl
        | dic ks ds => exact frzW_own x G e hv r ho rfl
        | obj c ns ds => exact frzW_own x G e hv r ho rfl
theorem Post.frz {γ δ : Type} {c : Ct} {g g1 : Gh} {ρ : Rho} {σ : St} {H H1 : Hp} {rep' : Gh → Hp → γ → δ → Prop} {Q : δ → Hp → Prop} {r : R} {v : V} {k : D → Rho → Rs γ} (hio : g.io = c.io) (x : Ext g H g1 H1) (G : Rel c.K g1 ρ σ H1) (h : RepR c.K H g1 σ H1 r v)
    (p : Post c g σ H rep' Q ((freeze c.io r ρ).bind k)) : ∃ d ρ2 g2, Ext g H g2 H1 ∧ Rel c.K g2 ρ2 σ H1 ∧ RepD c.K g2.Z d v ∧ Post c g σ H rep' Q (k d ρ2) := by
  rcases freeze_ok x G h with e | ⟨d, ρ', g', e, x', G', rd⟩
  · rw [hio] at e; rw [e] at p; exact p.elim
  · rw [hio] at e; rw [e] at p; exact ⟨d, ρ', g', x', G', rd, p⟩

/-! storing into a slot -/
def putW (io : List Nat) (i : Nat) (w : W) (ρ : Rho) : Rs Unit := if i < ρ.length ∧ i ∉ io then .ok () (ρ.set i (some w)) else .stuck
def store (io : List Nat) (i : Nat) : R → Rho → Rs Unit
  | .val d, ρ => putW io i (.dat d) ρ
  | .tmp w, ρ => putW io i w ρ
  | .place j, ρ => (freeze io (.place j) ρ).bind fun d ρ1 => putW io i (.dat d) ρ1
theorem look_set {ρ : Rho} {i : Nat} (il : i < ρ.length) (w : Option W) (j : Nat) : look (ρ.set i w) j = if j = i then w else look ρ j := by
  unfold look
  by_cases e : j = i
  · subst e; rw [if_pos rfl, List.getElem?_set_self il]; rfl
  · rw [if_neg e, List.getElem?_set_ne (Ne.symm e)]
theorem Rel.put {K : PySem.W.Frag} {g0 g : Gh} {ρ : Rho} {σ : St} {H0 H : Hp} {i : Nat} {w : W} {v : V} {o : Option Addr} (x : Ext g0 H0 g H) (G : Rel K g ρ σ H) (il : i < ρ.length) (hi : i ∉ g0.io) (r : RepW K g.Z H w v o) (hz : ∀ a, o = some a → g.Z a = none ∧ (∀ j, g.own j ≠ some a) ∧ H0 a = none) :
    ∃ g', Ext g0 H0 g' H ∧ Rel K g' (ρ.set i (some w)) (σ.set i (some v)) H := by
  have io : g.io = g0.io := x.io
  refine ⟨⟨g.Z, fun j => if j = i then o else g.own j, g.io⟩, ⟨x.z, x.fr, x.fr2, x.nw, fun j b h => ?_, x.io, fun j hj => ?_⟩, ⟨by simp [G.len], G.sub, fun j u h => ?_, fun j h => ?_, fun j b h => ?_, fun j k b h1 h2 => ?_⟩⟩
  · have h : (if j = i then o else g.own j) = some b := h
    split at h
    · exact .inr (hz b h).2.2
    · exact x.ow j b h
  · exact (if_neg (fun e : j = i => hi (e ▸ hj))).trans (x.ioo j hj)
  · rw [look_set il] at h
    show ∃ v', (σ.set i (some v))[j]? = some (some v') ∧ RepW K g.Z H u v' (if j = i then o else g.own j)
    by_cases e : j = i
    · subst e
      rw [if_pos rfl] at h ⊢
      cases h
      exact ⟨v, by rw [List.getElem?_set_self (by rw [← G.len]; exact il)], r⟩
    · rw [if_neg e] at h ⊢
      rw [List.getElem?_set_ne (Ne.symm e)]
      exact G.at_ j u h
  · rw [look_set il] at h
    show (if j = i then o else g.own j) = none
    by_cases e : j = i
    · rw [if_pos e] at h; cases h
    · rw [if_neg e] at h ⊢; exact G.emp j h
  · have h : (if j = i then o else g.own j) = some b := h
    split at h
    · exact (hz b h).1
    · exact G.nz j b h
  · have h1 : (if j = i then o else g.own j) = some b := h1
    have h2 : (if k = i then o else g.own k) = some b := h2
    by_cases ej : j = i
    · rw [if_pos ej] at h1
      by_cases ek : k = i
      · rw [ej, ek]
      · rw [if_neg ek] at h2; exact absurd h2 ((hz b h1).2.1 k)
    · rw [if_neg ej] at h1
      by_cases ek : k = i
      · rw [if_pos ek] at h2; exact absurd h1 ((hz b h2).2.1 j)
      · rw [if_neg ek] at h2; exact G.inj j k b h1 h2
theorem putW_ok {K : PySem.W.Frag} {g0 g : Gh} {ρ : Rho} {σ : St} {H0 H : Hp} {i : Nat} {w : W} {v : V} {o : Option Addr} (x : Ext g0 H0 g H) (G : Rel K g ρ σ H) (r : RepW K g.Z H w v o) (hz : ∀ a, o = some a → g.Z a = none ∧ (∀ j, g.own j ≠ some a) ∧ H0 a = none) :
    putW g0.io i w ρ = .stuck ∨ ∃ ρ' g', putW g0.io i w ρ = .ok () ρ' ∧ i ∉ g0.io ∧ Ext g0 H0 g' H ∧ Rel K g' ρ' (σ.set i (some v)) H := by
  unfold putW
  by_cases c : i < ρ.length ∧ i ∉ g0.io
  · obtain ⟨g', a, b⟩ := Rel.put x G c.1 c.2 r hz
    exact .inr ⟨_, g', if_pos c, c.2, a, b⟩
  · exact .inl (if_neg c)
theorem store_okR {K : PySem.W.Frag} {g0 g : Gh} {ρ : Rho} {σ : St} {H0 H : Hp} {i : Nat} {r : R} {v : V} (x : Ext g0 H0 g H) (G : Rel K g ρ σ H) (h : RepR K H0 g σ H r v) :
    store g0.io i r ρ = .stuck ∨ ∃ ρ' g', store g0.io i r ρ = .ok () ρ' ∧ i ∉ g0.io ∧ Ext g0 H0 g' H ∧ Rel K g' ρ' (σ.set i (some v)) H := by
  cases r with
  | val d => exact putW_ok (w := .dat d) (o := none) x G ⟨rfl, h⟩ (fun _ e => nomatch e)
  | tmp w =>
    obtain ⟨a, r, h1, h2, h3⟩ := h
    exact putW_ok (o := some a) x G r (fun b e => by cases e; exact ⟨h1, h2, h3⟩)
  | place j =>
    show ((freeze g0.io (.place j) ρ).bind fun d ρ1 => putW g0.io i (.dat d) ρ1) = .stuck ∨ ∃ ρ' g', ((freeze g0.io (.place j) ρ).bind fun d ρ1 => putW g0.io i (.dat d) ρ1) = .ok () ρ' ∧ _
    rcases freeze_ok x G h with e | ⟨d, ρ1, g1, e, x1, G1, rd⟩
    · rw [e]; exact .inl rfl
    · rw [e]
      exact putW_ok (w := .dat d) (o := none) x1 G1 ⟨rfl, rd⟩ (fun _ e => nomatch e)
end Spl

namespace Spl
open PySem PySem.Spec L2

/-! tests, lists of items, lists of arguments -/
def repQ (b : Gh) (H : Hp) (x y : Bool) : Prop := x = y
def tT (c : Ct) (f : Rho → Rs Bool) : TT := fun σ H Q => ∃ ρ g, g.io = c.io ∧ Rel c.K g ρ σ H ∧ Post c g σ H repQ Q (f ρ)
def repL (c : Ct) : Gh → Hp → List D → List V → Prop := fun g' _ ds vs => RepL c.K g'.Z ds vs
def tL (c : Ct) (f : Rho → Rs (List D)) : TA := fun σ H Q => ∃ ρ g, g.io = c.io ∧ Rel c.K g ρ σ H ∧ Post c g σ H (repL c) Q (f ρ)
def ST (X : Cx) (Wx : WX) (io : List Nat) (e : Expr) (f : Rho → Rs Bool) : Prop := PT X e (tT ⟨X.K, Wx, io⟩ f)
def SW (X : Cx) (Wx : WX) (io : List Nat) (e : Expr) (f : Rho → Rs Bool) : Prop := PW X e (tT ⟨X.K, Wx, io⟩ f)
def SL (X : Cx) (Wx : WX) (io : List Nat) (es : List Expr) (f : Rho → Rs (List D)) : Prop := PA X es (tL ⟨X.K, Wx, io⟩ f)
theorem PT.imp {X : Cx} {e : Expr} {t t' : TT} (h : PT X e t) (i : ∀ σ H Q, t' σ H Q → t σ H Q) : PT X e t' := ⟨fun pins s σ H Q I q => h.run pins s σ H Q I (i σ H Q q)⟩
theorem PW.imp {X : Cx} {e : Expr} {t t' : TT} (h : PW X e t) (i : ∀ σ H Q, t' σ H Q → t σ H Q) : PW X e t' := ⟨fun wh pins s σ H Q I q => h.run wh pins s σ H Q I (i σ H Q q)⟩
theorem PA.imp {X : Cx} {es : List Expr} {t t' : TA} (h : PA X es t) (i : ∀ σ H Q, t' σ H Q → t σ H Q) : PA X es t' := ⟨fun pos pins s σ H Q I q => h.run pos pins s σ H Q I (i σ H Q q)⟩
/-- a test's part -/
theorem tT.bind {γ δ : Type} {c : Ct} {g g1 : Gh} {ρ : Rho} {σ : St} {H H1 : Hp} {f : Rho → Rs Bool} {k : Bool → Rho → Rs γ} {rep' : Gh → Hp → γ → δ → Prop} {Q : δ → Hp → Prop} {T : Bool → Hp → Prop} (hio : g.io = c.io) (x1 : Ext g H g1 H1) (G : Rel c.K g1 ρ σ H1)
    (h : Post c g σ H rep' Q ((f ρ).bind k)) (n : ∀ b ρ2 g2 H2, Ext g1 H1 g2 H2 → Ext g H g2 H2 → Rel c.K g2 ρ2 σ H2 → Post c g σ H rep' Q (k b ρ2) → T b H2) : tT c f σ H1 T := by
  refine ⟨ρ, g1, x1.io.trans hio, G, ?_⟩
  cases e : f ρ with
  | stuck => rw [e] at h; exact h
  | exc cn ns ds ρ' => rw [e] at h; exact fun dx vs H' g' x' G' e1 e2 e3 => h dx vs H' g' (x1.trans x') G' e1 e2 e3
  | ok r ρ2 =>
    rw [e] at h
    intro v H2 g2 x2 G2 r2
    have r2 : r = v := r2
    subst r2
    exact n r ρ2 g2 H2 x2 (x1.trans x2) G2 h
theorem tL.bind {γ δ : Type} {c : Ct} {g g1 : Gh} {ρ : Rho} {σ : St} {H H1 : Hp} {f : Rho → Rs (List D)} {k : List D → Rho → Rs γ} {rep' : Gh → Hp → γ → δ → Prop} {Q : δ → Hp → Prop} {T : List V → Hp → Prop} (hio : g.io = c.io) (x1 : Ext g H g1 H1) (G : Rel c.K g1 ρ σ H1)
    (h : Post c g σ H rep' Q ((f ρ).bind k)) (n : ∀ ds ρ2 g2 vs H2, Ext g1 H1 g2 H2 → Ext g H g2 H2 → Rel c.K g2 ρ2 σ H2 → RepL c.K g2.Z ds vs → Post c g σ H rep' Q (k ds ρ2) → T vs H2) : tL c f σ H1 T := by
  refine ⟨ρ, g1, x1.io.trans hio, G, ?_⟩
  cases e : f ρ with
  | stuck => rw [e] at h; exact h
  | exc cn ns ds ρ' => rw [e] at h; exact fun dx vs H' g' x' G' e1 e2 e3 => h dx vs H' g' (x1.trans x') G' e1 e2 e3
  | ok r ρ2 =>
    rw [e] at h
    exact fun v H2 g2 x2 G2 r2 => n r ρ2 g2 v H2 x2 (x1.trans x2) G2 r2 h
/-- the end, a frozen value with the state as it stands -/
theorem Post.val {c : Ct} {g g1 : Gh} {ρ : Rho} {σ : St} {H H1 : Hp} {Q : VK} {d : D} {v : V} (x1 : Ext g H g1 H1) (G : Rel c.K g1 ρ σ H1) (p : Post c g σ H (repR c σ H) Q (.ok (.val d) ρ)) (r : RepD c.K g1.Z d v) : Q v H1 := p v H1 g1 x1 G r

/-! names and constants -/
def evV (i : Nat) (ρ : Rho) : Rs R := match look ρ i with
  | some (.dat d) => .ok (.val d) ρ
  | some _ => .ok (.place i) ρ
  | none => .stuck
def evC (d : D) (ρ : Rho) : Rs R := .ok (.val d) ρ
section
variable {X : Cx} {Wx : WX} {io : List Nat} {pos : Pos}
theorem SE_var {i : Nat} {x : Str} (hN : X.N[i]? = some x) (hv : Vis X.env.scope x) (hd : (x == ("__debug__" : Str)) = false) (hcd : (x == ("__classdict__" : Str)) = false) : SE X Wx io (.Name x pos) (evV i) :=
  PE.imp (pe_var hN hv hd hcd) fun σ H Q ⟨ρ, g, hio, G, p⟩ => by
    unfold evV at p
    cases e : look ρ i with
    | none => rw [e] at p; exact p.elim
    | some w =>
      obtain ⟨v, hv, r⟩ := G.at_ i w e
      rw [e] at p
      refine ⟨v, hv, ?_⟩
      cases w with
      | dat d => exact p v H g (.refl g H) G r.2
      | lst xs => exact p v H g (.refl g H) G hv
      | dic ks ds => exact p v H g (.refl g H) G hv
      | obj c ns ds => exact p v H g (.refl g H) G hv
theorem SE_const {e : Expr} {v : V} {d : D} (h : PE X e (tC v)) (r : ∀ Z, RepD X.K Z d v) : SE X Wx io e (evC d) :=
  PE.imp h fun σ H Q ⟨ρ, g, hio, G, p⟩ => p v H g (.refl g H) G (r _)
theorem SE_int {i : Int} {j : Nat} : SE X Wx io (.Constant (.int i) j pos) (evC (.int i)) := SE_const pe_int fun _ => repI
theorem SE_bl {i : Bool} {j : Nat} : SE X Wx io (.Constant (.bool i) j pos) (evC (.bl i)) := SE_const pe_bl fun _ => repB
theorem SE_non {j : Nat} : SE X Wx io (.Constant .none j pos) (evC .non) := SE_const pe_non fun _ => repN
theorem SE_str {i : Str} {j : Nat} : SE X Wx io (.Constant (.str i) j pos) (evC (.str i)) := SE_const pe_str fun _ => repS
end

/-! and, or, not, if-else -/
def R.bool (ρ : Rho) (r : R) : Option Bool := match r.view ρ with
  | some (.bl b) => some b
  | _ => none
def evAnd (f h : Rho → Rs R) (ρ : Rho) : Rs R := (f ρ).bind fun r ρ1 => (opt (r.bool ρ1) ρ1).bind fun b ρ2 => if b = true then h ρ2 else .ok (.val (.bl false)) ρ2
def evOr (f h : Rho → Rs R) (ρ : Rho) : Rs R := (f ρ).bind fun r ρ1 => (opt (r.bool ρ1) ρ1).bind fun b ρ2 => if b = true then .ok (.val (.bl true)) ρ2 else h ρ2
def evNot (f : Rho → Rs R) (ρ : Rho) : Rs R := (f ρ).bind fun r ρ1 => (opt (r.bool ρ1) ρ1).bind fun b ρ2 => .ok (.val (.bl (!b))) ρ2
def evIte (c : Rho → Rs Bool) (f h : Rho → Rs R) (ρ : Rho) : Rs R := (c ρ).bind fun b ρ1 => if b = true then f ρ1 else h ρ1
def teAnd (f h : Rho → Rs Bool) (ρ : Rho) : Rs Bool := (f ρ).bind fun b ρ2 => if b = true then h ρ2 else .ok false ρ2
def teOr (f h : Rho → Rs Bool) (ρ : Rho) : Rs Bool := (f ρ).bind fun b ρ2 => if b = true then .ok true ρ2 else h ρ2
def teNot (f : Rho → Rs Bool) (ρ : Rho) : Rs Bool := (f ρ).bind fun b ρ2 => .ok (!b) ρ2
def asT (f : Rho → Rs R) (ρ : Rho) : Rs Bool := (f ρ).bind fun r ρ1 => opt (r.bool ρ1) ρ1
def D.truth : D → Option Bool
  | .non => some false
  | .bl b => some b
  | .int i => some (i != 0)
  | .tup xs => some (!xs.isEmpty)
  | .lst xs => some (!xs.isEmpty)
  | _ => none
def te (f : Rho → Rs R) (ρ : Rho) : Rs Bool := (f ρ).bind fun r ρ1 => opt ((r.view ρ1).bind D.truth) ρ1
theorem R.bool_v {c : Ct} {H0 : Hp} {g : Gh} {ρ : Rho} {σ : St} {H : Hp} (G : Rel c.K g ρ σ H) {r : R} {v : V} {b : Bool} (h : RepR c.K H0 g σ H r v) (q : r.bool ρ = some b) : v = .bl b := by
  unfold R.bool at q
  split at q
  · rename_i e
    cases q
    exact h.u G e
  · cases q
theorem Post.optb {γ δ : Type} {c : Ct} {g : Gh} {ρ : Rho} {σ : St} {H : Hp} {rep' : Gh → Hp → γ → δ → Prop} {Q : δ → Hp → Prop} {α : Type} {o : Option α} {k : α → Rho → Rs γ} (p : Post c g σ H rep' Q ((opt o ρ).bind k)) : ∃ a, o = some a ∧ Post c g σ H rep' Q (k a ρ) := by
  cases o with
  | none => exact p.elim
  | some a => exact ⟨a, rfl, p⟩
section
variable {X : Cx} {Wx : WX} {io : List Nat} {a b c : Expr} {rest : List Expr} {f h : Rho → Rs R} {p q : Rho → Rs Bool} {pos : Pos}
theorem SE_one {op : BoolOp} (ha : SE X Wx io a f) : SE X Wx io (.BoolOp op [a] pos) f := pe_one ha
theorem SE_and (ha : SE X Wx io a f) (hb : SE X Wx io (.BoolOp .And (b :: rest) pos) h) : SE X Wx io (.BoolOp .And (a :: b :: rest) pos) (evAnd f h) :=
  PE.imp (pe_and ha hb) fun σ H Q ⟨ρ, g, hio, G, p⟩ => by
    refine tS.bind hio (.refl g H) G p fun r ρ1 g1 v H1 _ x1 G1 r1 p1 => ?_
    obtain ⟨k, hk, p2⟩ := p1.optb
    refine ⟨k, R.bool_v G1 r1 hk, ?_⟩
    cases k with
    | true => exact ⟨ρ1, g1, x1.io.trans hio, G1, Post.later x1 (fun _ _ _ _ z => RepR.from x1.fr2 z) p2⟩
    | false => exact Post.val x1 G1 p2 repB
theorem SE_or (ha : SE X Wx io a f) (hb : SE X Wx io (.BoolOp .Or (b :: rest) pos) h) : SE X Wx io (.BoolOp .Or (a :: b :: rest) pos) (evOr f h) :=
  PE.imp (pe_or ha hb) fun σ H Q ⟨ρ, g, hio, G, p⟩ => by
    refine tS.bind hio (.refl g H) G p fun r ρ1 g1 v H1 _ x1 G1 r1 p1 => ?_
    obtain ⟨k, hk, p2⟩ := p1.optb
    refine ⟨k, R.bool_v G1 r1 hk, ?_⟩
    cases k with
    | false => exact ⟨ρ1, g1, x1.io.trans hio, G1, Post.later x1 (fun _ _ _ _ z => RepR.from x1.fr2 z) p2⟩
    | true => exact Post.val x1 G1 p2 repB
theorem SE_not (ha : SE X Wx io a f) : SE X Wx io (.UnaryOp .Not a pos) (evNot f) :=
  PE.imp (pe_not ha) fun σ H Q ⟨ρ, g, hio, G, p⟩ => by
    refine tS.bind hio (.refl g H) G p fun r ρ1 g1 v H1 _ x1 G1 r1 p1 => ?_
    obtain ⟨k, hk, p2⟩ := p1.optb
    exact ⟨k, R.bool_v G1 r1 hk, Post.val x1 G1 p2 repB⟩
theorem SE_ite (hc : ST X Wx io c p) (ha : SE X Wx io a f) (hb : SE X Wx io b h) : SE X Wx io (.IfExp c a b pos) (evIte p f h) :=
  PE.imp (pe_ifExp hc ha hb) fun σ H Q ⟨ρ, g, hio, G, p⟩ => by
    refine tT.bind hio (.refl g H) G p fun k ρ1 g1 H1 _ x1 G1 p1 => ?_
    cases k with
    | true => exact ⟨ρ1, g1, x1.io.trans hio, G1, Post.later x1 (fun _ _ _ _ z => RepR.from x1.fr2 z) p1⟩
    | false => exact ⟨ρ1, g1, x1.io.trans hio, G1, Post.later x1 (fun _ _ _ _ z => RepR.from x1.fr2 z) p1⟩
theorem SW_and1 (ha : ST X Wx io a p) : SW X Wx io (.BoolOp .And [a] pos) p := pw_and1 ha
theorem SW_or1 (ha : ST X Wx io a p) : SW X Wx io (.BoolOp .Or [a] pos) p := pw_or1 ha
theorem SW_and (ha : ST X Wx io a p) (hb : SW X Wx io (.BoolOp .And (b :: rest) pos) q) : SW X Wx io (.BoolOp .And (a :: b :: rest) pos) (teAnd p q) :=
  PW.imp (pw_and ha hb) fun σ H Q ⟨ρ, g, hio, G, p⟩ => by
    refine tT.bind hio (.refl g H) G p fun k ρ1 g1 H1 _ x1 G1 p1 => ?_
    cases k with
    | true => exact ⟨ρ1, g1, x1.io.trans hio, G1, Post.later x1 (fun _ _ _ _ z => z) p1⟩
    | false => exact p1 false H1 g1 x1 G1 rfl
theorem SW_or (ha : ST X Wx io a p) (hb : SW X Wx io (.BoolOp .Or (b :: rest) pos) q) : SW X Wx io (.BoolOp .Or (a :: b :: rest) pos) (teOr p q) :=
  PW.imp (pw_or ha hb) fun σ H Q ⟨ρ, g, hio, G, p⟩ => by
    refine tT.bind hio (.refl g H) G p fun k ρ1 g1 H1 _ x1 G1 p1 => ?_
    cases k with
    | false => exact ⟨ρ1, g1, x1.io.trans hio, G1, Post.later x1 (fun _ _ _ _ z => z) p1⟩
    | true => exact p1 true H1 g1 x1 G1 rfl
theorem SW.t (h : SW X Wx io a p) : ST X Wx io a p := PW.pt h
theorem ST_not (ha : ST X Wx io a p) : ST X Wx io (.UnaryOp .Not a pos) (teNot p) :=
  PT.imp (pt_not ha) fun σ H Q ⟨ρ, g, hio, G, p⟩ => by
    refine tT.bind hio (.refl g H) G p fun k ρ1 g1 H1 _ x1 G1 p1 => ?_
    exact p1 _ H1 g1 x1 G1 rfl
theorem ST_truth (ha : SE X Wx io a f) (he : ∀ whole, isTrue a X.env whole = (do let v ← whole; standAt a.pos; holding [v] (truthy v))) : ST X Wx io a (te f) :=
  PT.imp (pt_truth ha he) fun σ H Q ⟨ρ, g, hio, G, p⟩ => by
    refine tS.bind hio (.refl g H) G p fun r ρ1 g1 v H1 _ x1 G1 r1 p1 => ?_
    cases e : (r.view ρ1).bind D.truth with
    | none => rw [e] at p1; exact p1.elim
    | some k =>
      rw [e] at p1
      obtain ⟨d, hd, ht⟩ := Option.bind_eq_some_iff.mp e
      have u := r1.u G1 hd
      refine ⟨k, ?_, p1 k H1 g1 x1 G1 rfl⟩
      cases d with
      | non => cases ht; cases u; rfl
      | bl b => cases ht; cases u; rfl
      | int b => cases ht; cases u; rfl
      | str b => cases ht
      | tup xs =>
        cases ht
        obtain ⟨a, vs, rfl, q, l⟩ := u
        refine .inr (.inl ⟨vs, G1.sub.sqT q, ?_⟩)
        have := l.length
        cases xs <;> cases vs <;> simp_all
      | lst xs =>
        cases ht
        obtain ⟨a, vs, rfl, q, l⟩ := u
        refine .inl ⟨vs, .of q, ?_⟩
        have := l.length
        cases xs <;> cases vs <;> simp_all
      | dic ks ds => cases ht
      | obj c ns ds => cases ht
      | scr ns => cases ht
      | fn q => cases ht
theorem tT_val {c : Ct} {f : Rho → Rs R} {σ : St} {H : Hp} {Q : Bool → Hp → Prop} (h : tT c (asT f) σ H Q) : tS c f σ H fun x H' => ∃ k, x = .bl k ∧ Q k H' := by
  obtain ⟨ρ, g, hio, G, p⟩ := h
  refine tS.bind hio (.refl g H) G p fun r ρ1 g1 v H1 _ x1 G1 r1 p1 => ?_
  cases e : r.bool ρ1 with
  | none => rw [e] at p1; exact p1.elim
  | some k =>
    rw [e] at p1
    exact ⟨k, R.bool_v G1 r1 e, p1 k H1 g1 x1 G1 rfl⟩
theorem ST_cmp {op : CmpOp} {o : D → D → Option R} (ho : OpR X (compareOp op) (rO2 X.K o)) (ha : SE X Wx io a f) (hb : SE X Wx io b h) (hm : behindInMarks op b = false) : ST X Wx io (.Compare a [op] [b] pos) (asT (ev2 o f h)) :=
  PT.imp (pt_cmpR ho ha hb hm) fun _ _ _ q => tS_op (tT_val q)
end
end Spl

namespace Spl
open PySem PySem.Spec L2

/-! a < b < c -/
def ev3 (o o' : D → D → Option R) (f h k : Rho → Rs R) (ρ : Rho) : Rs R := (f ρ).bind fun r ρ1 => (h ρ1).bind fun q ρ2 => (opt ((r.view ρ2).bind fun d => (q.view ρ2).bind fun e => o d e) ρ2).bind fun y ρ3 => (opt (y.bool ρ3) ρ3).bind fun b ρ4 =>
  if b = true then (k ρ4).bind fun s ρ5 => opt ((q.view ρ5).bind fun d => (s.view ρ5).bind fun e => o' d e) ρ5 else .ok (.val (.bl false)) ρ4
theorem tS_chain {c : Ct} {o o' : D → D → Option R} {f h k : Rho → Rs R} {σ : St} {H : Hp} {Q : VK} (hq : tS c (ev3 o o' f h k) σ H Q) : tChain (rO2 c.K o) (rO2 c.K o') (tS c f) (tS c h) (tS c k) σ H Q := by
  obtain ⟨ρ, g, hio, G, p⟩ := hq
  refine tS.bind hio (.refl g H) G p fun r ρ1 g1 v H1 _ x1 G1 r1 p1 => ?_
  refine tS.bind hio x1 G1 p1 fun q ρ2 g2 v2 H2 x12 x2 G2 r2 p2 => ?_
  obtain ⟨y, hy, p3⟩ := p2.optb
  obtain ⟨d, hd, ho⟩ := Option.bind_eq_some_iff.mp hy
  obtain ⟨e, he, ho⟩ := Option.bind_eq_some_iff.mp ho
  obtain ⟨b, hb, p4⟩ := p3.optb
  refine ⟨g2.Z, d, e, y, G2.sub, (r1.ext x12).u G2 hd, r2.u G2 he, ho, fun v' H' Z' nw rn => ?_⟩
  obtain ⟨ex, G'⟩ := nw.ext G2
  have rr := rn.r G2 nw
  refine ⟨b, R.bool_v G' rr hb, ?_⟩
  cases b with
  | false => exact Post.val (x2.trans ex) G' p4 repB
  | true =>
    refine tS.bind hio (x2.trans ex) G' p4 fun s ρ5 g5 v5 H5 x25 x5 G5 r5 p5 => ?_
    obtain ⟨z, hz, q5⟩ := p5.fin x5 G5
    obtain ⟨d', hd', ho'⟩ := Option.bind_eq_some_iff.mp hz
    obtain ⟨e', he', ho'⟩ := Option.bind_eq_some_iff.mp ho'
    exact ⟨g5.Z, d', e', z, G5.sub, (r2.ext (ex.trans x25)).u G5 hd', r5.u G5 he', ho', q5⟩
section
variable {X : Cx} {Wx : WX} {io : List Nat} {a b c : Expr} {f h k : Rho → Rs R} {pos : Pos}
theorem SE_chain {op op' : CmpOp} {o o' : D → D → Option R} (ho : OpR X (compareOp op) (rO2 X.K o)) (ho' : OpR X (compareOp op') (rO2 X.K o')) (ha : SE X Wx io a f) (hb : SE X Wx io b h) (hc : SE X Wx io c k) (hm : lastMarks [op, op'] [b, c] = false) :
    SE X Wx io (.Compare a [op, op'] [b, c] pos) (ev3 o o' f h k) := PE.imp (pe_chain ho ho' ha hb hc hm) fun _ _ _ q => tS_chain q
theorem ST_chain {op op' : CmpOp} {o o' : D → D → Option R} (ho : OpR X (compareOp op) (rO2 X.K o)) (ho' : OpR X (compareOp op') (rO2 X.K o')) (ha : SE X Wx io a f) (hb : SE X Wx io b h) (hc : SE X Wx io c k) (hm : lastMarks [op, op'] [b, c] = false) :
    ST X Wx io (.Compare a [op, op'] [b, c] pos) (asT (ev3 o o' f h k)) := PT.imp (pt_chain ho ho' ha hb hc hm) fun _ _ _ q => tS_chain (tT_val q)
end

/-! items of displays -/
def evNil (ρ : Rho) : Rs (List D) := .ok [] ρ
def evCons (io : List Nat) (f : Rho → Rs R) (h : Rho → Rs (List D)) (ρ : Rho) : Rs (List D) := (f ρ).bind fun r ρ1 => (freeze io r ρ1).bind fun d ρ2 => (h ρ2).bind fun ds ρ3 => .ok (d :: ds) ρ3
def D.items : D → Option (List D)
  | .tup xs => some xs
  | .lst xs => some xs
  | .scr ns => some (ns.map D.int)
  | _ => none
def evStar (f : Rho → Rs R) (h : Rho → Rs (List D)) (ρ : Rho) : Rs (List D) := (f ρ).bind fun r ρ1 => (opt ((r.view ρ1).bind D.items) ρ1).bind fun xs ρ2 => (h ρ2).bind fun ds ρ3 => .ok (xs ++ ds) ρ3
theorem RepL.intsOf {K : PySem.W.Frag} {Z : Hp} : ∀ {ns : List Int}, RepL K Z (ns.map D.int) (ns.map V.int)
  | [] => .nil
  | _ :: _ => .cons repI RepL.intsOf
/-- the items of a sequence -/
theorem RepU.items {K : PySem.W.Frag} {Z H : Hp} (s : Sub Z H) {d : D} {v : V} {xs : List D} (h : RepU K Z H d v) (e : d.items = some xs) : ∃ a vs, v = .ref a ∧ (SqT K H a vs ∨ SqL K H a vs) ∧ RepL K Z xs vs := by
  cases d with
  | tup ys => cases e; obtain ⟨a, vs, e1, q, r⟩ := h; exact ⟨a, vs, e1, .inl (s.sqT q), r⟩
  | lst ys => cases e; obtain ⟨a, vs, e1, q, r⟩ := h; exact ⟨a, vs, e1, .inr (.of q), r⟩
  | scr ns => cases e; obtain ⟨a, e1, q⟩ := h; exact ⟨a, _, e1, .inr q, RepL.intsOf⟩
  | _ => cases e
section
variable {X : Cx} {Wx : WX} {io : List Nat} {e : Expr} {es : List Expr} {f : Rho → Rs R} {h : Rho → Rs (List D)} {pos p : Pos}
theorem SL_nil : SL X Wx io [] evNil := PA.imp pa_nil fun σ H Q ⟨ρ, g, hio, G, q⟩ => q [] H g (.refl g H) G .nil
theorem SL_cons (ha : SE X Wx io e f) (hr : SL X Wx io es h) (hs : starEach (e :: es) X.env = (false, eval e X.env) :: starEach es X.env) : SL X Wx io (e :: es) (evCons io f h) :=
  PA.imp (pa_cons ha hr hs) fun σ H Q ⟨ρ, g, hio, G, q⟩ => by
    refine tS.bind hio (.refl g H) G q fun r ρ1 g1 v H1 _ x1 G1 r1 p1 => ?_
    obtain ⟨d, ρ2, g2, x2, G2, rd, p2⟩ := Post.frz (c := ⟨X.K, Wx, io⟩) hio x1 G1 r1 p1
    refine tL.bind hio x2 G2 p2 fun ds ρ3 g3 vs H3 x23 x3 G3 r3 p3 => ?_
    exact p3 _ H3 g3 x3 G3 (.cons (rd.sub (.of x23.z)) r3)
theorem SL_star (ha : SE X Wx io e f) (hr : SL X Wx io es h) (hs : starEach (.Starred e p :: es) X.env = (true, eval e X.env) :: starEach es X.env) : SL X Wx io (.Starred e p :: es) (evStar f h) :=
  PA.imp (StX.pa_star ha hr hs) fun σ H Q ⟨ρ, g, hio, G, q⟩ => by
    refine tS.bind hio (.refl g H) G q fun r ρ1 g1 v H1 _ x1 G1 r1 p1 => ?_
    obtain ⟨xs, hx, p2⟩ := p1.optb
    obtain ⟨d, hd, hi⟩ := Option.bind_eq_some_iff.mp hx
    obtain ⟨a, vs, ev, sq, rl⟩ := (r1.u G1 hd).items G1.sub hi
    refine ⟨a, vs, ev, sq, ?_⟩
    refine tL.bind hio x1 G1 p2 fun ds ρ3 g3 us H3 x13 x3 G3 r3 p3 => ?_
    exact p3 _ H3 g3 x3 G3 ((rl.sub (.of x13.z)).append r3)
def evTup (h : Rho → Rs (List D)) (ρ : Rho) : Rs R := (h ρ).bind fun ds ρ1 => if ds.length ≤ sizeLine then .ok (.val (.tup ds)) ρ1 else .stuck
def evLst (h : Rho → Rs (List D)) (ρ : Rho) : Rs R := (h ρ).bind fun ds ρ1 => if ds.length ≤ sizeLine then .ok (.tmp (.lst ds)) ρ1 else .stuck
theorem SE_tup {x1 : Nat} (hr : SL X Wx io es h) : SE X Wx io (.Tuple es x1 pos) (evTup h) :=
  PE.imp (pe_tup hr) fun σ H Q ⟨ρ, g, hio, G, q⟩ => by
    refine tL.bind hio (.refl g H) G q fun ds ρ1 g1 vs H1 _ x1 G1 r1 p1 => ?_
    have p1 : Post ⟨X.K, Wx, io⟩ g σ H (repR ⟨X.K, Wx, io⟩ σ H) Q (if ds.length ≤ sizeLine then Rs.ok (R.val (.tup ds)) ρ1 else .stuck) := p1
    by_cases hl : ds.length ≤ sizeLine
    · rw [if_pos hl] at p1
      refine ⟨by rw [← r1.length]; exact hl, fun a ha => ?_⟩
      obtain ⟨ex, G'⟩ := (NewOk.frozen G1.sub (o := .tup vs) ha).ext G1
      exact p1 _ _ _ (x1.trans ex) G' (RepN.tup G1.sub ha r1)
    · rw [if_neg hl] at p1; exact p1.elim
theorem SE_lst (hr : SL X Wx io es h) : SE X Wx io (.List es pos) (evLst h) :=
  PE.imp (pe_lst hr) fun σ H Q ⟨ρ, g, hio, G, q⟩ => by
    refine tL.bind hio (.refl g H) G q fun ds ρ1 g1 vs H1 _ x1 G1 r1 p1 => ?_
    have p1 : Post ⟨X.K, Wx, io⟩ g σ H (repR ⟨X.K, Wx, io⟩ σ H) Q (if ds.length ≤ sizeLine then .ok (.tmp (.lst ds)) ρ1 else .stuck) := p1
    by_cases hl : ds.length ≤ sizeLine
    · rw [if_pos hl] at p1
      refine ⟨by rw [← r1.length]; exact hl, fun a ha => ?_⟩
      have nw := (NewOk.fresh G1.sub (o := .lst vs) ha).1
      obtain ⟨ex, G'⟩ := nw.ext G1
      exact p1 _ _ _ (x1.trans ex) G' (RepR.from x1.fr2 ((RepN.lst G1.sub ha r1).r G1 nw))
    · rw [if_neg hl] at p1; exact p1.elim
end

/-! items, slices -/
def ixD : D → D → Option R
  | .lst xs, .int i => (atI xs i).map R.val
  | .tup xs, .int i => (atI xs i).map R.val
  | .scr xs, .int i => (atI xs i).map fun n => R.val (.int n)
  | .str x, .int i => if x.length ≤ sizeLine then (atI x.cps.toList i).map fun c => R.val (.str ⟨#[c]⟩) else none
  | _, _ => none
theorem IxR.imp {X : Cx} {r r' : R2} (h : IxR X r) (i : ∀ x y H Q, r' x y H Q → r x y H Q) : IxR X r' := fun value slice pins s σ H x y v u Q I rx ry q hs => h value slice pins s σ H x y v u Q I rx ry (i x y H Q q) hs
theorem IxR.split {X : Cx} {o : D → D → Option R}
    (h : ∀ d e r, o d e = some r → IxR X (fun x y H Q => ∃ Z, Sub Z H ∧ RepU X.K Z H d x ∧ RepU X.K Z H e y ∧ ∀ v H' Z', NewOk Z H Z' H' → RepN X.K H Z' H' r v → Q v H')) : IxR X (rO2 X.K o) := by
  intro value slice pins s σ H x y v u Q I rx ry ⟨Z, d, e, r, h1, h2, h3, h4, h5⟩ hs
  exact h d e r h4 value slice pins s σ H x y v u Q I rx ry ⟨Z, h1, h2, h3, h5⟩ hs
theorem atI_rep {K : PySem.W.Frag} {Z : Hp} {xs : List D} {vs : List V} {i : Int} {d : D} (r : RepL K Z xs vs) (h : atI xs i = some d) : ∃ v, atI vs i = some v ∧ RepD K Z d v := by
  unfold atI at h ⊢
  rw [← r.length]
  obtain ⟨j, hj, e⟩ := Option.bind_eq_some_iff.mp h
  obtain ⟨v, e1, e2⟩ := r.get e
  exact ⟨v, Option.bind_eq_some_iff.mpr ⟨j, hj, e1⟩, e2⟩
theorem ix_D {X : Cx} : IxR X (rO2 X.K ixD) := by
  refine IxR.split fun d e r h => ?_
  unfold ixD at h
  split at h
  · obtain ⟨y, hy, rfl⟩ := Option.map_eq_some_iff.mp h
    refine IxR.imp ix_list ?_
    rintro x z H Q ⟨Z, s, ⟨a, vs, ex, lx, rx⟩, hz, q⟩
    obtain ⟨v, hv, rv⟩ := atI_rep rx hy
    exact ⟨a, vs, _, v, ex, hz, .of lx, hv, q_val s q rv⟩
  · obtain ⟨y, hy, rfl⟩ := Option.map_eq_some_iff.mp h
    refine IxR.imp ix_tup ?_
    rintro x z H Q ⟨Z, s, ⟨a, vs, ex, lx, rx⟩, hz, q⟩
    obtain ⟨v, hv, rv⟩ := atI_rep rx hy
    exact ⟨a, vs, _, v, ex, hz, s.sqT lx, hv, q_val s q rv⟩
  · obtain ⟨y, hy, rfl⟩ := Option.map_eq_some_iff.mp h
    refine IxR.imp ix_list ?_
    rintro x z H Q ⟨Z, s, ⟨a, ex, lx⟩, hz, q⟩
    rename_i ns i
    have hv : atI (ns.map V.int) i = some (.int y) := by
      unfold atI at hy ⊢
      rw [List.length_map]
      obtain ⟨j, hj, e⟩ := Option.bind_eq_some_iff.mp hy
      exact Option.bind_eq_some_iff.mpr ⟨j, hj, by rw [List.getElem?_map, e]; rfl⟩
    exact ⟨a, _, _, _, ex, hz, lx, hv, q_val s q repI⟩
  · split at h
    · rename_i hl
      obtain ⟨y, hy, rfl⟩ := Option.map_eq_some_iff.mp h
      exact IxR.imp ix_str fun x z H Q ⟨Z, s, hx, hz, q⟩ => ⟨_, _, _, hx, hz, hl, hy, q_val s q repS⟩
    · cases h
  · cases h
/-- a part of a slice -/
def tP (c : Ct) (f : Rho → Rs (Option Int)) : TO := fun σ H Q => ∃ ρ g, g.io = c.io ∧ Rel c.K g ρ σ H ∧ Post c g σ H (fun _ _ a b => a = b) Q (f ρ)
def SP' (X : Cx) (Wx : WX) (io : List Nat) (e : Option Expr) (f : Rho → Rs (Option Int)) : Prop := PO X e (tP ⟨X.K, Wx, io⟩ f)
theorem PO.imp {X : Cx} {e : Option Expr} {t t' : TO} (h : PO X e t) (i : ∀ σ H Q, t' σ H Q → t σ H Q) : PO X e t' := ⟨fun pins s σ H Q I q => h.run pins s σ H Q I (i σ H Q q)⟩
theorem tP.bind {γ δ : Type} {c : Ct} {g g1 : Gh} {ρ : Rho} {σ : St} {H H1 : Hp} {f : Rho → Rs (Option Int)} {k : Option Int → Rho → Rs γ} {rep' : Gh → Hp → γ → δ → Prop} {Q : δ → Hp → Prop} {T : Option Int → Hp → Prop} (hio : g.io = c.io) (x1 : Ext g H g1 H1) (G : Rel c.K g1 ρ σ H1)
    (h : Post c g σ H rep' Q ((f ρ).bind k)) (n : ∀ b ρ2 g2 H2, Ext g1 H1 g2 H2 → Ext g H g2 H2 → Rel c.K g2 ρ2 σ H2 → Post c g σ H rep' Q (k b ρ2) → T b H2) : tP c f σ H1 T := by
  refine ⟨ρ, g1, x1.io.trans hio, G, ?_⟩
  cases e : f ρ with
  | stuck => rw [e] at h; exact h
  | exc cn ns ds ρ' => rw [e] at h; exact fun dx vs H' g' x' G' e1 e2 e3 => h dx vs H' g' (x1.trans x') G' e1 e2 e3
  | ok r ρ2 =>
    rw [e] at h
    intro v H2 g2 x2 G2 r2
    have r2 : r = v := r2
    subst r2
    exact n r ρ2 g2 H2 x2 (x1.trans x2) G2 h
def evNoP (ρ : Rho) : Rs (Option Int) := .ok none ρ
def R.int (ρ : Rho) (r : R) : Option Int := match r.view ρ with
  | some (.int i) => some i
  | _ => none
def evP (f : Rho → Rs R) (ρ : Rho) : Rs (Option Int) := (f ρ).bind fun r ρ1 => (opt (r.int ρ1) ρ1).bind fun i ρ2 => .ok (some i) ρ2
theorem R.int_v {c : Ct} {H0 : Hp} {g : Gh} {ρ : Rho} {σ : St} {H : Hp} (G : Rel c.K g ρ σ H) {r : R} {v : V} {b : Int} (h : RepR c.K H0 g σ H r v) (q : r.int ρ = some b) : v = .int b := by
  unfold R.int at q
  split at q
  · rename_i e
    cases q
    exact h.u G e
  · cases q
def slD (lo hi : Option Int) : D → Option R
  | .lst xs => some (.tmp (.lst ((xs.drop (HT.sIx xs.length 0 lo)).take (HT.sIx xs.length xs.length hi - HT.sIx xs.length 0 lo))))
  | .scr xs => some (.tmp (.lst (((xs.map D.int).drop (HT.sIx xs.length 0 lo)).take (HT.sIx xs.length xs.length hi - HT.sIx xs.length 0 lo))))
  | .tup xs => some (.val (.tup ((xs.drop (HT.sIx xs.length 0 lo)).take (HT.sIx xs.length xs.length hi - HT.sIx xs.length 0 lo))))
  | _ => none
def evSl (f : Rho → Rs R) (l h : Rho → Rs (Option Int)) (ρ : Rho) : Rs R := (f ρ).bind fun r ρ1 => (l ρ1).bind fun lo ρ2 => (h ρ2).bind fun hi ρ3 => opt ((r.view ρ3).bind (slD lo hi)) ρ3
end Spl

namespace Spl
open PySem PySem.Spec L2

/-! arguments, not frozen -/
inductive RepRs (K : PySem.W.Frag) (H0 : Hp) (g : Gh) (σ : St) (H : Hp) : List R → List V → Prop
  | nil : RepRs K H0 g σ H [] []
  | cons {r : R} {v : V} {rs : List R} {vs : List V} : RepR K H0 g σ H r v → RepRs K H0 g σ H rs vs → RepRs K H0 g σ H (r :: rs) (v :: vs)
theorem RepRs.ext {K : PySem.W.Frag} {H0 : Hp} {g g' : Gh} {σ : St} {H H' : Hp} (x : Ext g H g' H') {rs : List R} {vs : List V} (h : RepRs K H0 g σ H rs vs) : RepRs K H0 g' σ H' rs vs := by
  induction h with
  | nil => exact .nil
  | cons a _ ih => exact .cons (a.ext x) ih
theorem RepRs.from {K : PySem.W.Frag} {H0 H1 : Hp} {g : Gh} {σ : St} {H : Hp} (k : ∀ b, H0 b ≠ none → H1 b ≠ none) {rs : List R} {vs : List V} (h : RepRs K H1 g σ H rs vs) : RepRs K H0 g σ H rs vs := by
  induction h with
  | nil => exact .nil
  | cons a _ ih => exact .cons (RepR.from k a) ih
theorem RepRs.length {K : PySem.W.Frag} {H0 : Hp} {g : Gh} {σ : St} {H : Hp} {rs : List R} {vs : List V} (h : RepRs K H0 g σ H rs vs) : rs.length = vs.length := by
  induction h with
  | nil => rfl
  | cons a _ ih => simp [ih]
def repRs (c : Ct) (σ : St) (H0 : Hp) : Gh → Hp → List R → List V → Prop := fun g' H' rs vs => RepRs c.K H0 g' σ H' rs vs
def tR (c : Ct) (f : Rho → Rs (List R)) : TA := fun σ H Q => ∃ ρ g, g.io = c.io ∧ Rel c.K g ρ σ H ∧ Post c g σ H (repRs c σ H) Q (f ρ)
def SR (X : Cx) (Wx : WX) (io : List Nat) (es : List Expr) (f : Rho → Rs (List R)) : Prop := PA X es (tR ⟨X.K, Wx, io⟩ f)
theorem tR.bind {γ δ : Type} {c : Ct} {g g1 : Gh} {ρ : Rho} {σ : St} {H H1 : Hp} {f : Rho → Rs (List R)} {k : List R → Rho → Rs γ} {rep' : Gh → Hp → γ → δ → Prop} {Q : δ → Hp → Prop} {T : List V → Hp → Prop} (hio : g.io = c.io) (x1 : Ext g H g1 H1) (G : Rel c.K g1 ρ σ H1)
    (h : Post c g σ H rep' Q ((f ρ).bind k)) (n : ∀ rs ρ2 g2 vs H2, Ext g1 H1 g2 H2 → Ext g H g2 H2 → Rel c.K g2 ρ2 σ H2 → RepRs c.K H1 g2 σ H2 rs vs → Post c g σ H rep' Q (k rs ρ2) → T vs H2) : tR c f σ H1 T := by
  refine ⟨ρ, g1, x1.io.trans hio, G, ?_⟩
  cases e : f ρ with
  | stuck => rw [e] at h; exact h
  | exc cn ns ds ρ' => rw [e] at h; exact fun dx vs H' g' x' G' e1 e2 e3 => h dx vs H' g' (x1.trans x') G' e1 e2 e3
  | ok r ρ2 =>
    rw [e] at h
    exact fun v H2 g2 x2 G2 r2 => n r ρ2 g2 v H2 x2 (x1.trans x2) G2 r2 h
def arNil (ρ : Rho) : Rs (List R) := .ok [] ρ
def arCons (f : Rho → Rs R) (h : Rho → Rs (List R)) (ρ : Rho) : Rs (List R) := (f ρ).bind fun r ρ1 => (h ρ1).bind fun rs ρ2 => .ok (r :: rs) ρ2
section
variable {X : Cx} {Wx : WX} {io : List Nat} {e : Expr} {es : List Expr} {f : Rho → Rs R} {h : Rho → Rs (List R)}
theorem SR_nil : SR X Wx io [] arNil := PA.imp pa_nil fun σ H Q ⟨ρ, g, hio, G, q⟩ => q [] H g (.refl g H) G .nil
theorem SR_cons (ha : SE X Wx io e f) (hr : SR X Wx io es h) (hs : starEach (e :: es) X.env = (false, eval e X.env) :: starEach es X.env) : SR X Wx io (e :: es) (arCons f h) :=
  PA.imp (pa_cons ha hr hs) fun σ H Q ⟨ρ, g, hio, G, q⟩ => by
    refine tS.bind hio (.refl g H) G q fun r ρ1 g1 v H1 _ x1 G1 r1 p1 => ?_
    refine tR.bind hio x1 G1 p1 fun ds ρ3 g3 vs H3 x13 x3 G3 r3 p3 => ?_
    exact p3 _ H3 g3 x3 G3 (.cons (r1.ext x13) (r3.from x1.fr2))
end
/-! what is seen of several -/
inductive RepUs (K : PySem.W.Frag) (Z H : Hp) : List D → List V → Prop
  | nil : RepUs K Z H [] []
  | cons {d : D} {v : V} {ds : List D} {vs : List V} : RepU K Z H d v → RepUs K Z H ds vs → RepUs K Z H (d :: ds) (v :: vs)
def views (ρ : Rho) : List R → Option (List D)
  | [] => some []
  | r :: rs => (r.view ρ).bind fun d => (views ρ rs).map (d :: ·)
theorem RepRs.u {K : PySem.W.Frag} {H0 : Hp} {g : Gh} {ρ : Rho} {σ : St} {H : Hp} (G : Rel K g ρ σ H) {rs : List R} {vs : List V} (h : RepRs K H0 g σ H rs vs) : ∀ {ds : List D}, views ρ rs = some ds → RepUs K g.Z H ds vs := by
  induction h with
  | nil => intro ds e; cases e; exact .nil
  | cons a _ ih =>
    intro ds e
    obtain ⟨d, hd, e⟩ := Option.bind_eq_some_iff.mp e
    obtain ⟨r, hr, rfl⟩ := Option.map_eq_some_iff.mp e
    exact .cons (a.u G hd) (ih hr)
theorem RepUs.one {K : PySem.W.Frag} {Z H : Hp} {d : D} {vs : List V} : RepUs K Z H [d] vs → ∃ v, vs = [v] ∧ RepU K Z H d v
  | .cons r .nil => ⟨_, rfl, r⟩
theorem RepUs.two {K : PySem.W.Frag} {Z H : Hp} {d e : D} {vs : List V} : RepUs K Z H [d, e] vs → ∃ v u, vs = [v, u] ∧ RepU K Z H d v ∧ RepU K Z H e u
  | .cons r (.cons q .nil) => ⟨_, _, rfl, r, q⟩
def rOs (K : PySem.W.Frag) (o : List D → Option R) : List V → Hp → VK → Prop := fun vs H Q => ∃ Z ds r, Sub Z H ∧ RepUs K Z H ds vs ∧ o ds = some r ∧ ∀ v H' Z', NewOk Z H Z' H' → RepN K H Z' H' r v → Q v H'
def evB (o : List D → Option R) (h : Rho → Rs (List R)) (ρ : Rho) : Rs R := (h ρ).bind fun rs ρ1 => opt ((views ρ1 rs).bind o) ρ1
theorem tS_B {c : Ct} {o : List D → Option R} {h : Rho → Rs (List R)} {σ : St} {H : Hp} {Q : VK} (hq : tS c (evB o h) σ H Q) : tCB (rOs c.K o) (tR c h) σ H Q := by
  obtain ⟨ρ, g, hio, G, p⟩ := hq
  refine tR.bind hio (.refl g H) G p fun rs ρ1 g1 vs H1 _ x1 G1 r1 p1 => ?_
  obtain ⟨y, hy, q⟩ := p1.fin x1 G1
  obtain ⟨ds, hd, ho⟩ := Option.bind_eq_some_iff.mp hy
  exact ⟨g1.Z, ds, y, G1.sub, r1.u G1 hd, ho, q⟩
section
variable {X : Cx} {Wx : WX} {io : List Nat} {x : Str} {e : Expr} {es : List Expr} {h : Rho → Rs (List R)} {id T : String} {p pos : Pos} {o : List D → Option R}
theorem SE_callB (hc : CallR X (.builtin id) (rOs X.K o)) (hg : Gl X x) (hm : X.mg x = none) (hv : bootBuiltins x = some (.builtin id)) (ha : SR X Wx io (e :: es) h) (hn : x ≠ "__name__") (hdb : (x == ("__debug__" : Str)) = false)
    (he : starEach (e :: es) X.env = (false, eval e X.env) :: starEach es X.env) (hpl : (backTo pos (starEach es X.env)).any (·.1) = false) : SE X Wx io (.Call (.Name x p) (e :: es) [] pos) (evB o h) :=
  PE.imp (pe_callB hc hg hm hv ha hn hdb he hpl) fun _ _ _ q => tS_B q
theorem SE_callTy (hc : CallR X (.type T) (rOs X.K o)) (hg : Gl X x) (hm : X.mg x = none) (hv : bootBuiltins x = some (.type T)) (ha : SR X Wx io (e :: es) h) (hn : x ≠ "__name__") (hdb : (x == ("__debug__" : Str)) = false)
    (he : starEach (e :: es) X.env = (false, eval e X.env) :: starEach es X.env) (hpl : (backTo pos (starEach es X.env)).any (·.1) = false) : SE X Wx io (.Call (.Name x p) (e :: es) [] pos) (evB o h) :=
  PE.imp (pe_callTy hc hg hm hv ha hn hdb he hpl) fun _ _ _ q => tS_B q
end

/-! built-in functions on data -/
theorem CallR.imp {X : Cx} {f : Value} {r r' : List V → Hp → VK → Prop} (h : CallR X f r) (i : ∀ vs H Q, r' vs H Q → r vs H Q) : CallR X f r' := fun pins s σ H xs us Q I rv q => h pins s σ H xs us Q I rv (i xs H Q q)
def op1 (o : D → Option R) : List D → Option R
  | [d] => o d
  | _ => none
def op2 (o : D → D → Option R) : List D → Option R
  | [d, e] => o d e
  | _ => none
theorem CallR.split1 {X : Cx} {f : Value} {o : D → Option R}
    (h : ∀ d r, o d = some r → CallR X f (fun vs H Q => ∃ Z x, vs = [x] ∧ Sub Z H ∧ RepU X.K Z H d x ∧ ∀ v H' Z', NewOk Z H Z' H' → RepN X.K H Z' H' r v → Q v H')) : CallR X f (rOs X.K (op1 o)) := by
  intro pins s σ H xs us Q I rv ⟨Z, ds, r, h1, h2, h3, h4⟩
  match ds, h3 with
  | [d], h3 =>
    obtain ⟨x, rfl, hx⟩ := h2.one
    exact h d r h3 pins s σ H _ us Q I rv ⟨Z, x, rfl, h1, hx, h4⟩
theorem CallR.split2 {X : Cx} {f : Value} {o : D → D → Option R}
    (h : ∀ d e r, o d e = some r → CallR X f (fun vs H Q => ∃ Z x y, vs = [x, y] ∧ Sub Z H ∧ RepU X.K Z H d x ∧ RepU X.K Z H e y ∧ ∀ v H' Z', NewOk Z H Z' H' → RepN X.K H Z' H' r v → Q v H')) : CallR X f (rOs X.K (op2 o)) := by
  intro pins s σ H xs us Q I rv ⟨Z, ds, r, h1, h2, h3, h4⟩
  match ds, h3 with
  | [d, e], h3 =>
    obtain ⟨x, y, rfl, hx, hy⟩ := h2.two
    exact h d e r h3 pins s σ H _ us Q I rv ⟨Z, x, y, rfl, h1, hx, hy, h4⟩
def lenD : D → Option R
  | .str x => if x.length ≤ sizeLine then some (.val (.int x.length)) else none
  | .tup xs => some (.val (.int xs.length))
  | .lst xs => some (.val (.int xs.length))
  | .scr xs => some (.val (.int xs.length))
  | .dic ks vs => some (.val (.int vs.length))
  | _ => none
def absD : D → Option R
  | .int i => some (.val (.int (if i < 0 then -i else i)))
  | _ => none
def intD : D → Option R
  | .int i => some (.val (.int i))
  | .bl k => some (.val (.int (if k then 1 else 0)))
  | _ => none
def D.blsOf : List D → Option (List Bool)
  | [] => some []
  | .bl i :: r => (D.blsOf r).map (i :: ·)
  | _ :: _ => none
theorem RepL.bls {K : PySem.W.Frag} {Z : Hp} : ∀ {xs : List D} {vs : List V} {ns : List Bool}, RepL K Z xs vs → D.blsOf xs = some ns → vs = ns.map V.bl
  | [], vs, ns, h, e => by unfold RepL at h; subst h; cases e; rfl
  | d :: xs, vs, ns, h, e => by
    unfold RepL at h
    obtain ⟨v, r, rfl, h1, h2⟩ := h
    cases d with
    | bl i =>
      have e : (D.blsOf xs).map (i :: ·) = some ns := e
      obtain ⟨ms, e1, rfl⟩ := Option.map_eq_some_iff.mp e
      unfold RepD at h1
      subst h1
      rw [h2.bls e1]
      rfl
    | _ => cases e
def allD : D → Option R
  | .lst xs => (D.blsOf xs).map fun bs => .val (.bl (bs.all id))
  | _ => none
def anyD : D → Option R
  | .lst xs => (D.blsOf xs).map fun bs => .val (.bl (bs.any id))
  | _ => none
def sumD : D → Option R
  | .lst xs => (D.intsOf xs).map fun bs => .val (.int bs.sum)
  | _ => none
def maxI : Int → List Int → Int
  | a, [] => a
  | a, b :: r => maxI (if b > a then b else a) r
def minI : Int → List Int → Int
  | a, [] => a
  | a, b :: r => minI (if b < a then b else a) r
theorem maxI_ge : ∀ (a : Int) (l : List Int), a ≤ maxI a l ∧ ∀ y ∈ l, y ≤ maxI a l
  | a, [] => ⟨Int.le_refl _, by simp⟩
  | a, b :: r => by
    have h := maxI_ge (if b > a then b else a) r
    unfold maxI
    refine ⟨?_, fun y hy => ?_⟩
    · refine Int.le_trans ?_ h.1
      split <;> omega
    · rcases List.mem_cons.mp hy with rfl | hy
      · refine Int.le_trans ?_ h.1
        split <;> omega
      · exact h.2 y hy
theorem maxI_mem : ∀ (a : Int) (l : List Int), maxI a l = a ∨ maxI a l ∈ l
  | a, [] => .inl rfl
  | a, b :: r => by
    unfold maxI
    rcases maxI_mem (if b > a then b else a) r with h | h
    · rw [h]
      split
      · exact .inr (List.mem_cons_self ..)
      · exact .inl rfl
    · exact .inr (List.mem_cons_of_mem _ h)
theorem minI_le : ∀ (a : Int) (l : List Int), minI a l ≤ a ∧ ∀ y ∈ l, minI a l ≤ y
  | a, [] => ⟨Int.le_refl _, by simp⟩
  | a, b :: r => by
    have h := minI_le (if b < a then b else a) r
    unfold minI
    refine ⟨?_, fun y hy => ?_⟩
    · refine Int.le_trans h.1 ?_
      split <;> omega
    · rcases List.mem_cons.mp hy with rfl | hy
      · refine Int.le_trans h.1 ?_
        split <;> omega
      · exact h.2 y hy
theorem minI_mem : ∀ (a : Int) (l : List Int), minI a l = a ∨ minI a l ∈ l
  | a, [] => .inl rfl
  | a, b :: r => by
    unfold minI
    rcases minI_mem (if b < a then b else a) r with h | h
    · rw [h]
      split
      · exact .inr (List.mem_cons_self ..)
      · exact .inl rfl
    · exact .inr (List.mem_cons_of_mem _ h)
def maxD : D → Option R
  | .lst xs => (D.intsOf xs).bind fun
    | [] => none
    | a :: r => some (.val (.int (maxI a r)))
  | _ => none
def minD : D → Option R
  | .lst xs => (D.intsOf xs).bind fun
    | [] => none
    | a :: r => some (.val (.int (minI a r)))
  | _ => none
def max2D : D → D → Option R
  | .int i, .int j => some (.val (.int (if j > i then j else i)))
  | _, _ => none
def min2D : D → D → Option R
  | .int i, .int j => some (.val (.int (if j < i then j else i)))
  | _, _ => none
def D.keyD : Key → D
  | .inl i => .int i
  | .inr x => .str x
def listD : D → Option R
  | .lst xs => some (.tmp (.lst xs))
  | .tup xs => some (.tmp (.lst xs))
  | .scr xs => some (.tmp (.lst (xs.map D.int)))
  | _ => none
def tupleD : D → Option R
  | .lst xs => some (.val (.tup xs))
  | .tup xs => some (.val (.tup xs))
  | .scr xs => some (.val (.tup (xs.map D.int)))
  | _ => none
section
variable {X : Cx}
/-- len of a dict, locked or not -/
theorem c_lenDR : CallR X (.builtin "len") (fun xs H Q => (∃ a kvs, xs = [V.ref a] ∧ Rd H a (.dK kvs) ∧ Q (.int kvs.length) H) ∨ ∃ a kvs, xs = [V.ref a] ∧ Rd H a (.dT kvs) ∧ Q (.int kvs.length) H) := by
  intro pins s σ H xs us Q I r h
  rcases h with ⟨a, kvs, rfl, ha, q⟩ | ⟨a, kvs, rfl, ha, q⟩
  · obtain ⟨u, rfl, ru⟩ := vals1 r
    cases ru
    exact d_len I ha fun t s' I' => ⟨.int kvs.length, H, I', ⟨t, rfl⟩, q⟩
  · obtain ⟨u, rfl, rx⟩ := vals1 r
    obtain rfl : u = .ref a := rx
    obtain ⟨z, hd, ys, rel, dd⟩ := dt_rd I.hok ha
    have hl : kvs.length = ys.length := Paired.length rel
    refine call_len_dictH (knd := tupleKind (mixKind X.prog X.w)) hd dd (by rw [← hl]; rw [sizeLine_eq] at z; omega) ?_
    rw [← hl]
    exact ⟨.int ((kvs.length : Nat) : Int), H, I.tok _, ⟨_, rfl⟩, q⟩
theorem c_len : CallR X (.builtin "len") (rOs X.K (op1 lenD)) := by
  refine CallR.split1 fun d r h => ?_
  cases d with
  | str x =>
    have h : (if x.length ≤ sizeLine then some (R.val (.int x.length)) else none) = some r := h
    by_cases hl : x.length ≤ sizeLine
    · rw [if_pos hl] at h
      cases h
      exact CallR.imp call_len_str fun vs H Q ⟨Z, v, ev, s, hx, q⟩ => ⟨x, by rw [ev]; exact congrArg (fun z => [z]) hx, hl, q_val s q repI⟩
    · rw [if_neg hl] at h; cases h
  | tup xs =>
    cases h
    exact CallR.imp call_len_seq fun vs H Q ⟨Z, v, ev, s, ⟨a, us, e1, l, rx⟩, q⟩ => ⟨a, us, by rw [ev, e1], .inr (s.sqT l), by rw [← rx.length]; exact q_val s q repI⟩
  | lst xs =>
    cases h
    exact CallR.imp call_len_seq fun vs H Q ⟨Z, v, ev, s, ⟨a, us, e1, l, rx⟩, q⟩ => ⟨a, us, by rw [ev, e1], .inl (.of l), by rw [← rx.length]; exact q_val s q repI⟩
  | scr xs =>
    cases h
    exact CallR.imp call_len_seq fun vs H Q ⟨Z, v, ev, s, ⟨a, e1, l⟩, q⟩ => ⟨a, _, by rw [ev, e1], .inl l, by rw [List.length_map]; exact q_val s q repI⟩
  | dic ks ds =>
    cases h
    refine CallR.imp c_lenDR fun vs H Q ⟨Z, v, ev, s, ⟨a, us, e1, ⟨l, _, k⟩, rx⟩, q⟩ => ?_
    have hq : Q (.int us.length) H := by rw [← rx.length]; exact q_val s q repI
    rcases k with ⟨kk, ek, r⟩ | ⟨kk, ek, r⟩
    · have l' : kk.length = us.length := by rw [← l, ek, List.length_map]
      exact .inl ⟨a, kk.zip us, by rw [ev, e1], r, by rw [List.length_zip, l', Nat.min_self]; exact hq⟩
    · have l' : kk.length = us.length := by rw [← l, ek.1, List.length_map]
      exact .inr ⟨a, kk.zip us, by rw [ev, e1], r, by rw [List.length_zip, l', Nat.min_self]; exact hq⟩
  | _ => cases h
theorem c_abs : CallR X (.builtin "abs") (rOs X.K (op1 absD)) := by
  refine CallR.split1 fun d r h => ?_
  cases d with
  | int i => cases h; exact CallR.imp call_abs fun vs H Q ⟨Z, v, ev, s, hx, q⟩ => ⟨i, by rw [ev]; exact congrArg (fun z => [z]) hx, q_val s q repI⟩
  | _ => cases h
theorem c_int : CallR X (.type "int") (rOs X.K (op1 intD)) := by
  refine CallR.split1 fun d r h => ?_
  cases d with
  | int i => cases h; exact CallR.imp call_int1 fun vs H Q ⟨Z, v, ev, s, hx, q⟩ => .inl ⟨i, by rw [ev]; exact congrArg (fun z => [z]) hx, q_val s q repI⟩
  | bl i => cases h; exact CallR.imp call_int1 fun vs H Q ⟨Z, v, ev, s, hx, q⟩ => .inr ⟨i, by rw [ev]; exact congrArg (fun z => [z]) hx, q_val s q repI⟩
  | _ => cases h
theorem c_all (hc : X.calm = true) : CallR X (.builtin "all") (rOs X.K (op1 allD)) := by
  refine CallR.split1 fun d r h => ?_
  cases d with
  | lst xs =>
    obtain ⟨bs, hb, rfl⟩ := Option.map_eq_some_iff.mp h
    exact CallR.imp (cr_all hc) fun vs H Q ⟨Z, v, ev, s, ⟨a, us, e1, l, rx⟩, q⟩ => ⟨a, bs, by rw [ev, e1], by rw [← rx.bls hb]; exact .of l, q_val s q repB⟩
  | _ => cases h
theorem c_any (hc : X.calm = true) : CallR X (.builtin "any") (rOs X.K (op1 anyD)) := by
  refine CallR.split1 fun d r h => ?_
  cases d with
  | lst xs =>
    obtain ⟨bs, hb, rfl⟩ := Option.map_eq_some_iff.mp h
    exact CallR.imp (cr_any hc) fun vs H Q ⟨Z, v, ev, s, ⟨a, us, e1, l, rx⟩, q⟩ => ⟨a, bs, by rw [ev, e1], by rw [← rx.bls hb]; exact .of l, q_val s q repB⟩
  | _ => cases h
theorem c_sum (hc : X.calm = true) : CallR X (.builtin "sum") (rOs X.K (op1 sumD)) := by
  refine CallR.split1 fun d r h => ?_
  cases d with
  | lst xs =>
    obtain ⟨bs, hb, rfl⟩ := Option.map_eq_some_iff.mp h
    exact CallR.imp (cr_sum hc) fun vs H Q ⟨Z, v, ev, s, ⟨a, us, e1, l, rx⟩, q⟩ => ⟨a, bs, by rw [ev, e1], by rw [← rx.ints hb]; exact .of l, q_val s q repI⟩
  | _ => cases h
theorem c_max (hc : X.calm = true) : CallR X (.builtin "max") (rOs X.K (op1 maxD)) := by
  refine CallR.split1 fun d r h => ?_
  cases d with
  | lst xs =>
    obtain ⟨bs, hb, h⟩ := Option.bind_eq_some_iff.mp h
    cases bs with
    | nil => cases h
    | cons b bs =>
      cases h
      refine CallR.imp (cr_max hc) fun vs H Q ⟨Z, v, ev, s, ⟨a, us, e1, l, rx⟩, q⟩ => ⟨a, b :: bs, by rw [ev, e1], by rw [← rx.ints hb]; exact .of l, Nat.succ_pos _, fun m hm hy => ?_⟩
      have h1 := maxI_ge b bs
      have h2 := maxI_mem b bs
      have e : m = maxI b bs := by
        have a1 : m ≤ maxI b bs := by
          rcases List.mem_cons.mp hm with rfl | hm
          · exact h1.1
          · exact h1.2 m hm
        have a2 : maxI b bs ≤ m := by
          rcases h2 with h2 | h2
          · rw [h2]; exact hy b (List.mem_cons_self ..)
          · exact hy _ (List.mem_cons_of_mem _ h2)
        omega
      rw [e]
      exact q_val s q repI
  | _ => cases h
theorem c_min (hc : X.calm = true) : CallR X (.builtin "min") (rOs X.K (op1 minD)) := by
  refine CallR.split1 fun d r h => ?_
  cases d with
  | lst xs =>
    obtain ⟨bs, hb, h⟩ := Option.bind_eq_some_iff.mp h
    cases bs with
    | nil => cases h
    | cons b bs =>
      cases h
      refine CallR.imp (cr_min hc) fun vs H Q ⟨Z, v, ev, s, ⟨a, us, e1, l, rx⟩, q⟩ => ⟨a, b :: bs, by rw [ev, e1], by rw [← rx.ints hb]; exact .of l, Nat.succ_pos _, fun m hm hy => ?_⟩
      have h1 := minI_le b bs
      have h2 := minI_mem b bs
      have e : m = minI b bs := by
        have a1 : minI b bs ≤ m := by
          rcases List.mem_cons.mp hm with rfl | hm
          · exact h1.1
          · exact h1.2 m hm
        have a2 : m ≤ minI b bs := by
          rcases h2 with h2 | h2
          · rw [h2]; exact hy b (List.mem_cons_self ..)
          · exact hy _ (List.mem_cons_of_mem _ h2)
        omega
      rw [e]
      exact q_val s q repI
  | _ => cases h
theorem c_max2 (hc : X.calm = true) : CallR X (.builtin "max") (rOs X.K (op2 max2D)) := by
  refine CallR.split2 fun d e r h => ?_
  unfold max2D at h
  split at h
  · cases h
    refine CallR.imp (call_max2 hc) ?_
    rintro vs H Q ⟨Z, v, u, ev, s, hx, hy, q⟩
    cases hx; cases hy
    exact ⟨_, _, ev, q_val s q repI⟩
  · cases h
theorem c_min2 (hc : X.calm = true) : CallR X (.builtin "min") (rOs X.K (op2 min2D)) := by
  refine CallR.split2 fun d e r h => ?_
  unfold min2D at h
  split at h
  · cases h
    refine CallR.imp (call_min2 hc) ?_
    rintro vs H Q ⟨Z, v, u, ev, s, hx, hy, q⟩
    cases hx; cases hy
    exact ⟨_, _, ev, q_val s q repI⟩
  · cases h
theorem c_list : CallR X (.type "list") (rOs X.K (op1 listD)) := by
  refine CallR.split1 fun d r h => ?_
  cases d with
  | lst xs => cases h; exact CallR.imp call_list_of fun vs H Q ⟨Z, v, ev, s, ⟨a, us, e1, l, rx⟩, q⟩ => ⟨a, us, by rw [ev, e1], .inl (.of l), q_lst s q rx⟩
  | tup xs => cases h; exact CallR.imp call_list_of fun vs H Q ⟨Z, v, ev, s, ⟨a, us, e1, l, rx⟩, q⟩ => ⟨a, us, by rw [ev, e1], .inr (s.sqT l), q_lst s q rx⟩
  | scr xs => cases h; exact CallR.imp call_list_of fun vs H Q ⟨Z, v, ev, s, ⟨a, e1, l⟩, q⟩ => ⟨a, _, by rw [ev, e1], .inl l, q_lst s q RepL.intsOf⟩
  | _ => cases h
theorem c_tuple : CallR X (.type "tuple") (rOs X.K (op1 tupleD)) := by
  refine CallR.split1 fun d r h => ?_
  cases d with
  | lst xs => cases h; exact CallR.imp call_tuple_of fun vs H Q ⟨Z, v, ev, s, ⟨a, us, e1, l, rx⟩, q⟩ => ⟨a, us, by rw [ev, e1], .inl ⟨.of l, q_tup s q rx⟩⟩
  | tup xs => cases h; exact CallR.imp call_tuple_of fun vs H Q ⟨Z, v, ev, s, ⟨a, us, e1, l, rx⟩, q⟩ => ⟨a, us, by rw [ev, e1], .inr ⟨s.sqT l, q_val s q (by unfold RepD; exact ⟨a, us, rfl, l, rx⟩)⟩⟩
  | scr xs => cases h; exact CallR.imp call_tuple_of fun vs H Q ⟨Z, v, ev, s, ⟨a, e1, l⟩, q⟩ => ⟨a, _, by rw [ev, e1], .inl ⟨l, q_tup s q RepL.intsOf⟩⟩
  | _ => cases h
end
end Spl

namespace Spl
open PySem PySem.Spec L2

/-! slices -/
theorem SlR.imp {X : Cx} {r r' : V → Option Int → Option Int → Hp → VK → Prop} (h : SlR X r) (i : ∀ x lo hi H Q, r' x lo hi H Q → r x lo hi H Q) : SlR X r' := fun pins s σ H x v vl vu lo hi sl Q I rx hs pl pu q => h pins s σ H x v vl vu lo hi sl Q I rx hs pl pu (i x lo hi H Q q)
def rSlD (K : PySem.W.Frag) : V → Option Int → Option Int → Hp → VK → Prop := fun x lo hi H Q => ∃ Z d r, Sub Z H ∧ RepU K Z H d x ∧ slD lo hi d = some r ∧ ∀ v H' Z', NewOk Z H Z' H' → RepN K H Z' H' r v → Q v H'
theorem RepL.cut {K : PySem.W.Frag} {Z : Hp} {xs : List D} {vs : List V} (r : RepL K Z xs vs) (lo hi : Option Int) : RepL K Z ((xs.drop (HT.sIx xs.length 0 lo)).take (HT.sIx xs.length xs.length hi - HT.sIx xs.length 0 lo)) (cutV vs lo hi) := by
  unfold cutV
  rw [← r.length]
  exact (r.drop _).take _
theorem sl_D {X : Cx} : SlR X (rSlD X.K) := by
  intro pins s σ H x v vl vu lo hi sl Q I rx hs pl pu ⟨Z, d, r, s1, u, e, q⟩
  cases d with
  | lst xs =>
    cases e
    obtain ⟨a, vs, e1, l, rl⟩ := u
    exact sl_list pins s σ H x v vl vu lo hi sl Q I rx hs pl pu ⟨a, vs, e1, .of l, q_lst s1 q (rl.cut lo hi)⟩
  | scr xs =>
    cases e
    obtain ⟨a, e1, l⟩ := u
    have rl : RepL X.K Z (xs.map D.int) (xs.map V.int) := RepL.intsOf
    refine sl_list pins s σ H x v vl vu lo hi sl Q I rx hs pl pu ⟨a, _, e1, l, q_lst s1 q ?_⟩
    have := rl.cut lo hi
    rw [List.length_map] at this
    exact this
  | tup xs =>
    cases e
    obtain ⟨a, vs, e1, l, rl⟩ := u
    refine sl_tupA pins s σ H x v vl vu lo hi sl Q I rx hs pl pu ⟨a, vs, e1, s1.sqT l, fun hw => ?_, fun _ => q_tup s1 q (rl.cut lo hi)⟩
    refine q_val s1 q ?_
    rw [← rl.length] at hw
    rw [hw.1, hw.2, List.drop_zero, Nat.sub_zero, List.take_length]
    unfold RepD
    exact ⟨a, vs, rfl, l, rl⟩
  | _ => cases e
section
variable {X : Cx} {Wx : WX} {io : List Nat} {a : Expr} {lo hi : Option Expr} {f : Rho → Rs R} {l h : Rho → Rs (Option Int)} {p2 pos : Pos} {b : Expr}
theorem SP_none : SP' X Wx io none evNoP := PO.imp po_none fun σ H Q ⟨ρ, g, hio, G, q⟩ => q none H g (.refl g H) G rfl
theorem SP_some (hb : SE X Wx io b f) : SP' X Wx io (some b) (evP f) := PO.imp (po_some hb) fun σ H Q ⟨ρ, g, hio, G, q⟩ => by
  refine tS.bind hio (.refl g H) G q fun r ρ1 g1 v H1 _ x1 G1 r1 p1 => ?_
  obtain ⟨i, hi, p2⟩ := p1.optb
  exact ⟨i, R.int_v (c := ⟨X.K, Wx, io⟩) G1 r1 hi, p2 _ H1 g1 x1 G1 rfl⟩
theorem SE_sl (ha : SE X Wx io a f) (hl : SP' X Wx io lo l) (hh : SP' X Wx io hi h) : SE X Wx io (.Subscript a (.Slice lo hi none p2) pos) (evSl f l h) :=
  PE.imp (pe_slice sl_D ha hl hh) fun σ H Q ⟨ρ, g, hio, G, q⟩ => by
    refine tS.bind hio (.refl g H) G q fun r ρ1 g1 v H1 _ x1 G1 r1 p1 => ?_
    refine tP.bind hio x1 G1 p1 fun lo ρ2 g2 H2 x12 x2 G2 p2 => ?_
    refine tP.bind hio x2 G2 p2 fun hi ρ3 g3 H3 x23 x3 G3 p3 => ?_
    obtain ⟨y, hy, q⟩ := p3.fin x3 G3
    obtain ⟨d, hd, ho⟩ := Option.bind_eq_some_iff.mp hy
    exact ⟨g3.Z, d, y, G3.sub, (r1.ext (x12.trans x23)).u G3 hd, ho, q⟩
end
/-- xs[::-1] of a list -/
def revD : D → Option R
  | .lst xs => some (.tmp (.lst xs.reverse))
  | .scr xs => some (.tmp (.lst (xs.map D.int).reverse))
  | _ => none
theorem SE_rev {X : Cx} {Wx : WX} {io : List Nat} {a : Expr} {f : Rho → Rs R} {k : Nat} {p1 p2 p3 pos : Pos} (ha : SE X Wx io a f) : SE X Wx io (.Subscript a (.Slice none none (some (.UnaryOp .USub (.Constant (.int 1) k p1) p2)) p3) pos) (ev1 revD f) :=
  PE.imp (pe_revL ha) fun σ H Q h => by
    have h2 := tS_un h
    obtain ⟨ρ, g, hio, G, p⟩ := h
    refine tS.bind hio (.refl g H) G p fun r ρ1 g1 v H1 _ x1 G1 r1 p1 => ?_
    obtain ⟨y, hy, q⟩ := p1.fin x1 G1
    obtain ⟨d, hd, ho⟩ := Option.bind_eq_some_iff.mp hy
    have u := r1.u G1 hd
    cases d with
    | lst xs =>
      cases ho
      obtain ⟨a, vs, e1, l, rl⟩ := u
      exact ⟨a, vs, e1, .of l, q_lst G1.sub q rl.reverse⟩
    | scr xs =>
      cases ho
      obtain ⟨a, e1, l⟩ := u
      exact ⟨a, _, e1, l, q_lst G1.sub q (RepL.reverse RepL.intsOf)⟩
    | _ => cases ho

/-! calls of own functions -/
inductive A where
  | dat (d : D) | own (i : Nat)
/-- an argument stands -/
def RepA (K : PySem.W.Frag) (g : Gh) (σ : St) : A → V → Prop
  | .dat d, v => RepD K g.Z d v
  | .own i, v => σ[i]? = some (some v)
inductive RepAs (K : PySem.W.Frag) (g : Gh) (σ : St) : List A → List V → Prop
  | nil : RepAs K g σ [] []
  | cons {a : A} {v : V} {as : List A} {vs : List V} : RepA K g σ a v → RepAs K g σ as vs → RepAs K g σ (a :: as) (v :: vs)
theorem RepA.ext {K : PySem.W.Frag} {g g' : Gh} {σ : St} (z : ∀ b o, g.Z b = some o → g'.Z b = some o) : ∀ {a : A} {v : V}, RepA K g σ a v → RepA K g' σ a v
  | .dat d, v, h => RepD.sub (.of z) h
  | .own i, v, h => h
theorem RepAs.length {K : PySem.W.Frag} {g : Gh} {σ : St} {as : List A} {vs : List V} (h : RepAs K g σ as vs) : as.length = vs.length := by
  induction h with
  | nil => rfl
  | cons _ _ ih => simp [ih]
theorem RepAs.get {K : PySem.W.Frag} {g : Gh} {σ : St} {as : List A} {vs : List V} (h : RepAs K g σ as vs) : ∀ {i : Nat} {a : A}, as[i]? = some a → ∃ v, vs[i]? = some v ∧ RepA K g σ a v := by
  induction h with
  | nil => intro i a e; simp at e
  | cons h1 _ ih =>
    intro i a e
    cases i with
    | zero => cases e; exact ⟨_, rfl, h1⟩
    | succ i => exact ih (i := i) (by simpa using e)

theorem RepAs.ext {K : PySem.W.Frag} {g g' : Gh} {σ : St} (z : ∀ b o, g.Z b = some o → g'.Z b = some o) {as : List A} {vs : List V} (h : RepAs K g σ as vs) : RepAs K g' σ as vs := by
  induction h with
  | nil => exact .nil
  | cons h1 _ ih => exact .cons (h1.ext z) ih
theorem RepAs.append {K : PySem.W.Frag} {g : Gh} {σ : St} {as bs : List A} {vs us : List V} (h : RepAs K g σ as vs) (k : RepAs K g σ bs us) : RepAs K g σ (as ++ bs) (vs ++ us) := by
  induction h with
  | nil => exact k
  | cons h1 _ ih => exact .cons h1 ih
def repAs (c : Ct) (σ : St) : Gh → Hp → List A → List V → Prop := fun g' _ as vs => RepAs c.K g' σ as vs
def tAs (c : Ct) (f : Rho → Rs (List A)) : TA := fun σ H Q => ∃ ρ g, g.io = c.io ∧ Rel c.K g ρ σ H ∧ Post c g σ H (repAs c σ) Q (f ρ)
def SA (X : Cx) (Wx : WX) (io : List Nat) (es : List Expr) (f : Rho → Rs (List A)) : Prop := PA X es (tAs ⟨X.K, Wx, io⟩ f)
def SK (X : Cx) (Wx : WX) (io : List Nat) (es : List Keyword) (f : Rho → Rs (List A)) : Prop := PK X es (tAs ⟨X.K, Wx, io⟩ f)
theorem PK.imp {X : Cx} {es : List Keyword} {t t' : TA} (h : PK X es t) (i : ∀ σ H Q, t' σ H Q → t σ H Q) : PK X es t' := ⟨fun pos pins s σ H Q I q => h.run pos pins s σ H Q I (i σ H Q q)⟩
theorem tAs.bind {γ δ : Type} {c : Ct} {g g1 : Gh} {ρ : Rho} {σ : St} {H H1 : Hp} {f : Rho → Rs (List A)} {k : List A → Rho → Rs γ} {rep' : Gh → Hp → γ → δ → Prop} {Q : δ → Hp → Prop} {T : List V → Hp → Prop} (hio : g.io = c.io) (x1 : Ext g H g1 H1) (G : Rel c.K g1 ρ σ H1)
    (h : Post c g σ H rep' Q ((f ρ).bind k)) (n : ∀ as ρ2 g2 vs H2, Ext g1 H1 g2 H2 → Ext g H g2 H2 → Rel c.K g2 ρ2 σ H2 → RepAs c.K g2 σ as vs → Post c g σ H rep' Q (k as ρ2) → T vs H2) : tAs c f σ H1 T := by
  refine ⟨ρ, g1, x1.io.trans hio, G, ?_⟩
  cases e : f ρ with
  | stuck => rw [e] at h; exact h
  | exc cn ns ds ρ' => rw [e] at h; exact fun dx vs H' g' x' G' e1 e2 e3 => h dx vs H' g' (x1.trans x') G' e1 e2 e3
  | ok r ρ2 =>
    rw [e] at h
    exact fun v H2 g2 x2 G2 r2 => n r ρ2 g2 v H2 x2 (x1.trans x2) G2 r2 h
def aNil (ρ : Rho) : Rs (List A) := .ok [] ρ
def aDat (io : List Nat) (f : Rho → Rs R) (h : Rho → Rs (List A)) (ρ : Rho) : Rs (List A) := (f ρ).bind fun r ρ1 => (freeze io r ρ1).bind fun d ρ2 => (h ρ2).bind fun as ρ3 => .ok (.dat d :: as) ρ3
def R.at : R → Option Nat
  | .place i => some i
  | _ => none
def aOwn (f : Rho → Rs R) (h : Rho → Rs (List A)) (ρ : Rho) : Rs (List A) := (f ρ).bind fun r ρ1 => (opt r.at ρ1).bind fun i ρ2 => (h ρ2).bind fun as ρ3 => .ok (.own i :: as) ρ3
theorem R.at_v {K : PySem.W.Frag} {H0 : Hp} {g : Gh} {σ : St} {H : Hp} {r : R} {v : V} {i : Nat} (h : RepR K H0 g σ H r v) (e : r.at = some i) : σ[i]? = some (some v) := by
  cases r with
  | place j => cases e; exact h
  | val d => cases e
  | tmp w => cases e
section
variable {X : Cx} {Wx : WX} {io : List Nat} {e : Expr} {es : List Expr} {f : Rho → Rs R} {h : Rho → Rs (List A)} {kws : List Keyword} {nm : Option Str} {kpos : Pos}
theorem t_aDat {t : TA} (hr : t = tAs ⟨X.K, Wx, io⟩ h) {σ : St} {H : Hp} {Q : List V → Hp → Prop} (q : tAs ⟨X.K, Wx, io⟩ (aDat io f h) σ H Q) : tCons (tS ⟨X.K, Wx, io⟩ f) t σ H Q := by
  subst hr
  obtain ⟨ρ, g, hio, G, q⟩ := q
  refine tS.bind hio (.refl g H) G q fun r ρ1 g1 v H1 _ x1 G1 r1 p1 => ?_
  obtain ⟨d, ρ2, g2, x2, G2, rd, p2⟩ := Post.frz (c := ⟨X.K, Wx, io⟩) hio x1 G1 r1 p1
  refine tAs.bind hio x2 G2 p2 fun ds ρ3 g3 vs H3 x23 x3 G3 r3 p3 => ?_
  exact p3 _ H3 g3 x3 G3 (.cons (RepA.ext (a := .dat d) x23.z rd) r3)
theorem t_aOwn {t : TA} (hr : t = tAs ⟨X.K, Wx, io⟩ h) {σ : St} {H : Hp} {Q : List V → Hp → Prop} (q : tAs ⟨X.K, Wx, io⟩ (aOwn f h) σ H Q) : tCons (tS ⟨X.K, Wx, io⟩ f) t σ H Q := by
  subst hr
  obtain ⟨ρ, g, hio, G, q⟩ := q
  refine tS.bind hio (.refl g H) G q fun r ρ1 g1 v H1 _ x1 G1 r1 p1 => ?_
  obtain ⟨i, hi, p2⟩ := p1.optb
  refine tAs.bind hio x1 G1 p2 fun ds ρ3 g3 vs H3 x23 x3 G3 r3 p3 => ?_
  exact p3 _ H3 g3 x3 G3 (.cons (R.at_v r1 hi) r3)
theorem SA_nil : SA X Wx io [] aNil := PA.imp pa_nil fun σ H Q ⟨ρ, g, hio, G, q⟩ => q [] H g (.refl g H) G .nil
theorem SA_dat (ha : SE X Wx io e f) (hr : SA X Wx io es h) (hs : starEach (e :: es) X.env = (false, eval e X.env) :: starEach es X.env) : SA X Wx io (e :: es) (aDat io f h) := PA.imp (pa_cons ha hr hs) fun _ _ _ q => t_aDat rfl q
theorem SA_own (ha : SE X Wx io e f) (hr : SA X Wx io es h) (hs : starEach (e :: es) X.env = (false, eval e X.env) :: starEach es X.env) : SA X Wx io (e :: es) (aOwn f h) := PA.imp (pa_cons ha hr hs) fun _ _ _ q => t_aOwn rfl q
theorem SK_nil : SK X Wx io [] aNil := PK.imp pk_nil fun σ H Q ⟨ρ, g, hio, G, q⟩ => q [] H g (.refl g H) G .nil
theorem SK_dat (ha : SE X Wx io e f) (hr : SK X Wx io kws h) : SK X Wx io (⟨nm, e, kpos⟩ :: kws) (aDat io f h) := PK.imp (pk_cons ha hr) fun _ _ _ q => t_aDat rfl q
theorem SK_own (ha : SE X Wx io e f) (hr : SK X Wx io kws h) : SK X Wx io (⟨nm, e, kpos⟩ :: kws) (aOwn f h) := PK.imp (pk_cons ha hr) fun _ _ _ q => t_aOwn rfl q
end

/-! the call itself -/
def argW (ρ : Rho) : A → Option W
  | .dat d => some (.dat d)
  | .own i => match look ρ i with
    | some (.dat _) => none
    | o => o
def argWs (ρ : Rho) : List A → Option (List W)
  | [] => some []
  | a :: as => (argW ρ a).bind fun w => (argWs ρ as).map (w :: ·)
def owns : List A → List Nat
  | [] => []
  | .own i :: as => i :: owns as
  | .dat _ :: as => owns as
def backW : List A → List W → Rho → Rho
  | .own i :: as, w :: ws, ρ => backW as ws (ρ.set i (some w))
  | .dat _ :: as, _ :: ws, ρ => backW as ws ρ
  | _, _, ρ => ρ
def R.of : W → R
  | .dat d => .val d
  | w => .tmp w
def callF (F : Fn) (as : List A) (ρ : Rho) : Rs R := if (owns as).Nodup then match argWs ρ as with
  | none => .stuck
  | some ws => match F ws with
    | .ret w io => .ok (.of w) (backW as io ρ)
    | .exc c ns ds io => .exc c ns ds (backW as io ρ)
    | .stuck => .stuck
  else .stuck
def ownOf (g : Gh) (as : List A) (k : Nat) : Option Addr := match as[k]? with
  | some (.own i) => g.own i
  | _ => none
theorem ownOf_some {g : Gh} {as : List A} {k : Nat} {a : Addr} (h : ownOf g as k = some a) : ∃ i, as[k]? = some (A.own i) ∧ g.own i = some a := by
  unfold ownOf at h
  split at h
  · rename_i i e
    exact ⟨i, e, h⟩
  · cases h
theorem owns_mem : ∀ {as : List A} {i : Nat}, i ∈ owns as ↔ ∃ k : Nat, as[k]? = some (A.own i)
  | [], i => by simp [owns]
  | .own j :: as, i => by
    unfold owns
    rw [List.mem_cons, owns_mem]
    constructor
    · rintro (rfl | ⟨k, h⟩)
      · exact ⟨0, rfl⟩
      · exact ⟨k + 1, by simpa using h⟩
    · rintro ⟨k, h⟩
      cases k with
      | zero => simp at h; exact .inl h.symm
      | succ k => exact .inr ⟨k, by simpa using h⟩
  | .dat d :: as, i => by
    unfold owns
    rw [owns_mem]
    constructor
    · rintro ⟨k, h⟩
      exact ⟨k + 1, by simpa using h⟩
    · rintro ⟨k, h⟩
      cases k with
      | zero => simp at h
      | succ k => exact ⟨k, by simpa using h⟩
theorem owns_inj : ∀ {as : List A} {i k l : Nat}, (owns as).Nodup → as[k]? = some (A.own i) → as[l]? = some (A.own i) → k = l
  | [], i, k, l, _, h, _ => by simp at h
  | .own j :: as, i, k, l, nd, hk, hl => by
    have nd : (j :: owns as).Nodup := nd
    rw [List.nodup_cons] at nd
    cases k with
    | zero =>
      cases l with
      | zero => rfl
      | succ l =>
        simp at hk; subst hk
        exact absurd (owns_mem.mpr ⟨l, by simpa using hl⟩) nd.1
    | succ k =>
      cases l with
      | zero =>
        simp at hl; subst hl
        exact absurd (owns_mem.mpr ⟨k, by simpa using hk⟩) nd.1
      | succ l => exact congrArg (· + 1) (owns_inj (i := i) (k := k) (l := l) nd.2 (by simpa using hk) (by simpa using hl))
  | .dat d :: as, i, k, l, nd, hk, hl => by
    have nd : (owns as).Nodup := nd
    cases k with
    | zero => simp at hk
    | succ k =>
      cases l with
      | zero => simp at hl
      | succ l => exact congrArg (· + 1) (owns_inj (i := i) (k := k) (l := l) nd (by simpa using hk) (by simpa using hl))
theorem argWs_get {ρ : Rho} : ∀ {as : List A} {ws : List W} {k : Nat} {w : W}, argWs ρ as = some ws → ws[k]? = some w → ∃ a, as[k]? = some a ∧ argW ρ a = some w
  | [], ws, k, w, e, h => by cases e; simp at h
  | a :: as, ws, k, w, e, h => by
    obtain ⟨u, h1, e⟩ := Option.bind_eq_some_iff.mp e
    obtain ⟨us, h2, rfl⟩ := Option.map_eq_some_iff.mp e
    cases k with
    | zero => cases h; exact ⟨a, rfl, h1⟩
    | succ k =>
      obtain ⟨b, h3, h4⟩ := argWs_get (k := k) h2 (by simpa using h)
      exact ⟨b, by simpa using h3, h4⟩
theorem argWs_len {ρ : Rho} : ∀ {as : List A} {ws : List W}, argWs ρ as = some ws → ws.length = as.length
  | [], ws, e => by cases e; rfl
  | a :: as, ws, e => by
    obtain ⟨u, h1, e⟩ := Option.bind_eq_some_iff.mp e
    obtain ⟨us, h2, rfl⟩ := Option.map_eq_some_iff.mp e
    simp [argWs_len h2]
/-- the callee's start -/
theorem args_start {K : PySem.W.Frag} {g : Gh} {ρ : Rho} {σ : St} {H : Hp} {as : List A} {vs : List V} {ws : List W} (G : Rel K g ρ σ H) (ra : RepAs K g σ as vs) (nd : (owns as).Nodup) (e : argWs ρ as = some ws) : Args0 K ⟨g.Z, ownOf g as, []⟩ ws vs H := by
  have hl := argWs_len e
  refine ⟨by rw [List.length_map, List.length_map, hl, ra.length], G.sub, fun k w h => ?_, fun k h => ?_, fun k a h => ?_, fun k l a h1 h2 => ?_⟩
  · have h : ws[k]? = some w := by
      rw [look_eq, List.getElem?_map] at h
      obtain ⟨u, h1, h2⟩ := Option.map_eq_some_iff.mp h
      cases h2; exact h1
    obtain ⟨a, ha, hw⟩ := argWs_get e h
    obtain ⟨v, hv, rv⟩ := ra.get ha
    refine ⟨v, by rw [List.getElem?_map, hv]; rfl, ?_⟩
    show RepW K g.Z H w v (ownOf g as k)
    unfold ownOf
    rw [ha]
    cases a with
    | dat d => cases hw; exact ⟨rfl, rv⟩
    | own i =>
      have hw : (match look ρ i with | some (.dat _) => none | o => o) = some w := hw
      have hi : look ρ i = some w := by
        split at hw
        · cases hw
        · exact hw
      obtain ⟨u, hu, r⟩ := G.at_ i w hi
      have rv : σ[i]? = some (some v) := rv
      rw [rv] at hu; cases hu
      exact r
  · show ownOf g as k = none
    cases q : as[k]? with
    | none => unfold ownOf; rw [q]
    | some a =>
      have : k < ws.length := by rw [hl]; exact (List.getElem?_eq_some_iff.mp q).1
      unfold look at h
      rw [List.getElem?_map, List.getElem?_eq_getElem this] at h
      simp at h
  · obtain ⟨i, _, h⟩ := ownOf_some h
    exact G.nz i a h
  · obtain ⟨i, hi, h1⟩ := ownOf_some h1
    obtain ⟨j, hj, h2⟩ := ownOf_some h2
    have : i = j := G.inj i j a h1 h2
    subst this
    exact owns_inj nd hi hj

/-- what stands behind -/
theorem backW_get : ∀ {as : List A} {ws : List W} {ρ : Rho} {k i : Nat} {w : W}, (owns as).Nodup → as[k]? = some (A.own i) → (∀ (j l : Nat), as[j]? = some (A.own l) → ∃ u, ws[j]? = some u) → as.length ≤ ws.length → i < ρ.length → ws[k]? = some w → look (backW as ws ρ) i = some w
  | [], ws, ρ, k, i, w, _, h, _, _, _, _ => by simp at h
  | a :: as, [], ρ, k, i, w, _, _, _, hl, _, _ => by simp at hl
  | .dat d :: as, u :: ws, ρ, k, i, w, nd, h, e, hl, il, hw => by
    cases k with
    | zero => simp at h
    | succ k => exact backW_get (as := as) (ws := ws) (k := k) nd (by simpa using h) (fun j l q => by simpa using e (j + 1) l (by simpa using q)) (by simpa using hl) il (by simpa using hw)
  | .own j :: as, u :: ws, ρ, k, i, w, nd, h, e, hl, il, hw => by
    have nd : (j :: owns as).Nodup := nd
    rw [List.nodup_cons] at nd
    cases k with
    | zero =>
      simp at h hw
      subst h hw
      show look (backW as ws (ρ.set j (some u))) j = some u
      have keep : ∀ {as : List A} {ws : List W} {ρ : Rho}, j ∉ owns as → look (backW as ws ρ) j = look ρ j := by
        intro as
        induction as with
        | nil => intro ws ρ _; unfold backW; rfl
        | cons b as ih =>
          intro ws ρ hn
          cases ws with
          | nil => cases b <;> rfl
          | cons v ws =>
            cases b with
            | dat d => exact ih hn
            | own l =>
              have hn : j ∉ l :: owns as := hn
              rw [List.mem_cons, not_or] at hn
              refine (ih hn.2).trans ?_
              unfold look
              rw [List.getElem?_set_ne (Ne.symm hn.1)]
      rw [keep nd.1, look_set il, if_pos rfl]
    | succ k => exact backW_get (as := as) (ws := ws) (ρ := ρ.set j (some u)) (k := k) nd.2 (by simpa using h) (fun j l q => by simpa using e (j + 1) l (by simpa using q)) (by simpa using hl) (by simpa using il) (by simpa using hw)
theorem backW_len : ∀ {as : List A} {ws : List W} {ρ : Rho}, (backW as ws ρ).length = ρ.length
  | [], ws, ρ => by unfold backW; rfl
  | .dat d :: as, [], ρ => rfl
  | .own d :: as, [], ρ => rfl
  | .dat d :: as, u :: ws, ρ => backW_len (as := as)
  | .own i :: as, u :: ws, ρ => by
    show (backW as ws (ρ.set i (some u))).length = _
    rw [backW_len (as := as), List.length_set]
theorem backW_keep : ∀ {as : List A} {ws : List W} {ρ : Rho} {j : Nat}, j ∉ owns as → look (backW as ws ρ) j = look ρ j
  | [], ws, ρ, j, _ => by unfold backW; rfl
  | .dat d :: as, [], ρ, j, _ => rfl
  | .own d :: as, [], ρ, j, _ => rfl
  | .dat d :: as, u :: ws, ρ, j, h => backW_keep (as := as) h
  | .own i :: as, u :: ws, ρ, j, h => by
    have h : j ∉ i :: owns as := h
    rw [List.mem_cons, not_or] at h
    refine (backW_keep (as := as) h.2).trans ?_
    unfold look
    rw [List.getElem?_set_ne (Ne.symm h.1)]
theorem Rel.alive {K : PySem.W.Frag} {g : Gh} {ρ : Rho} {σ : St} {H : Hp} (G : Rel K g ρ σ H) {i : Nat} {a : Addr} (h : g.own i = some a) : ∃ o, H a = some o := by
  cases e : look ρ i with
  | none => rw [G.emp i e] at h; cases h
  | some w =>
    obtain ⟨v, _, q⟩ := G.at_ i w e
    rw [h] at q
    exact q.own_some.2
theorem Rel.lt_of {K : PySem.W.Frag} {g : Gh} {ρ : Rho} {σ : St} {H : Hp} (G : Rel K g ρ σ H) {i : Nat} {a : Addr} (h : g.own i = some a) : i < ρ.length := by
  cases e : look ρ i with
  | none => rw [G.emp i e] at h; cases h
  | some w =>
    rw [look_eq] at e
    exact (List.getElem?_eq_some_iff.mp e).1
/-- behind a call -/
theorem args_back {K : PySem.W.Frag} {g : Gh} {ρ : Rho} {σ : St} {H : Hp} {as : List A} {vs : List V} {ws io : List W} {Z' H' : Hp} {dv : List W} {dV : List V} (G : Rel K g ρ σ H) (ra : RepAs K g σ as vs) (nd : (owns as).Nodup) (e : argWs ρ as = some ws)
    (b : Back K ⟨g.Z, ownOf g as, []⟩ (ws ++ dv) (vs ++ dV) H io Z' H') (hio : as.length ≤ io.length) : Ext g H ⟨Z', g.own, g.io⟩ H' ∧ Rel K ⟨Z', g.own, g.io⟩ (backW as io ρ) σ H' := by
  have ownd : ∀ (k i : Nat), as[k]? = some (A.own i) → ∃ a, g.own i = some a := by
    intro k i h
    have hk : k < ws.length := by rw [argWs_len e]; exact (List.getElem?_eq_some_iff.mp h).1
    obtain ⟨a, ha, hw⟩ := argWs_get e (List.getElem?_eq_getElem hk)
    rw [h] at ha; cases ha
    have hw : (match look ρ i with | some (.dat _) => none | o => o) = some ws[k] := hw
    cases q : look ρ i with
    | none => rw [q] at hw; cases hw
    | some u =>
      obtain ⟨v, _, r⟩ := G.at_ i u q
      cases ho : g.own i with
      | some a => exact ⟨a, rfl⟩
      | none =>
        rw [ho] at r
        obtain ⟨d, rfl, _⟩ := r.dat_of_none
        rw [q] at hw; cases hw
  have back : ∀ (k i : Nat) (a : Addr), as[k]? = some (A.own i) → g.own i = some a → ∃ w v, io[k]? = some w ∧ σ[i]? = some (some v) ∧ RepW K Z' H' w v (some a) := by
    intro k i a h ho
    obtain ⟨w, v, h1, h2, h3⟩ := b.io k a (by show ownOf g as k = some a; unfold ownOf; rw [h]; exact ho)
    obtain ⟨u, hu, ru⟩ := ra.get h
    have hk : k < vs.length := by rw [← ra.length]; exact (List.getElem?_eq_some_iff.mp h).1
    rw [List.getElem?_append_left hk, hu] at h2
    cases h2
    exact ⟨w, _, h1, ru, h3⟩
  have nown : ∀ x, (∀ i, g.own i ≠ some x) → ∀ k, ownOf g as k ≠ some x := fun x n k h => by
    obtain ⟨i, _, q⟩ := ownOf_some h
    exact n i q
  refine ⟨⟨b.ext.z, fun x o h n => b.ext.fr x o h (nown x n), b.ext.fr2, fun x h => ?_, fun i a h => .inl ⟨i, h⟩, rfl, fun _ _ => rfl⟩, ⟨by rw [backW_len]; exact G.len, b.sub, fun j w h => ?_, fun j h => ?_, fun j a h => ?_, G.inj⟩⟩
  · rcases b.ext.nw x h with q | q | ⟨k, q⟩
    · exact .inl q
    · exact .inr (.inl q)
    · obtain ⟨i, _, q⟩ := ownOf_some q
      exact .inr (.inr ⟨i, q⟩)
  · by_cases hj : j ∈ owns as
    · obtain ⟨k, hk⟩ := owns_mem.mp hj
      obtain ⟨a, ho⟩ := ownd k j hk
      obtain ⟨u, v, h1, h2, h3⟩ := back k j a hk ho
      have h4 := backW_get (ρ := ρ) nd hk (fun l m q => by
        obtain ⟨a, ho⟩ := ownd l m q
        obtain ⟨u, v, h1, _⟩ := back l m a q ho
        exact ⟨u, h1⟩) hio (G.lt_of ho) h1
      have eu : u = w := Option.some.inj (h4.symm.trans h)
      subst eu
      exact ⟨v, h2, by show RepW K Z' H' _ v (g.own j); rw [ho]; exact h3⟩
    · rw [backW_keep hj] at h
      obtain ⟨v, hv, r⟩ := G.at_ j w h
      refine ⟨v, hv, r.stay b.ext.z fun a o ea ho => b.ext.fr a o ho fun k q => ?_⟩
      obtain ⟨i, hi, q⟩ := ownOf_some q
      have ea : g.own j = some a := ea
      exact hj (owns_mem.mpr ⟨k, by rw [G.inj j i a ea q]; exact hi⟩)
  · by_cases hj : j ∈ owns as
    · obtain ⟨k, hk⟩ := owns_mem.mp hj
      obtain ⟨a, ho⟩ := ownd k j hk
      obtain ⟨u, v, h1, h2, h3⟩ := back k j a hk ho
      have h4 := backW_get (ρ := ρ) nd hk (fun l m q => by
        obtain ⟨a, ho⟩ := ownd l m q
        obtain ⟨u, v, h1, _⟩ := back l m a q ho
        exact ⟨u, h1⟩) hio (G.lt_of ho) h1
      rw [h4] at h; cases h
    · rw [backW_keep hj] at h
      exact G.emp j h
  · have h : g.own j = some a := h
    by_cases hj : j ∈ owns as
    · obtain ⟨k, hk⟩ := owns_mem.mp hj
      exact b.nz k a (by show ownOf g as k = some a; unfold ownOf; rw [hk]; exact h)
    · cases q : Z' a with
      | none => exact q
      | some o =>
        exfalso
        rcases b.ext.nw a (by show Z' a ≠ none; rw [q]; simp) with z | z | ⟨k, z⟩
        · exact z (G.nz j a h)
        · obtain ⟨o, z2⟩ := G.alive h
          rw [z] at z2; cases z2
        · obtain ⟨i, hi, z⟩ := ownOf_some z
          exact hj (owns_mem.mpr ⟨k, by rw [G.inj j i a h z]; exact hi⟩)
end Spl

namespace Spl
open PySem PySem.Spec L2

/-! a call, its arguments told -/
def appF (F : Fn) (as : List A) (ρ : Rho) : Rs R := if (owns as).Nodup then match argWs ρ as with
  | none => .stuck
  | some ws => match F ws with
    | .ret w io => if as.length ≤ io.length then .ok (.of w) (backW as io ρ) else .stuck
    | .exc c ns ds io => if as.length ≤ io.length then .exc c ns ds (backW as io ρ) else .stuck
    | .stuck => .stuck
  else .stuck
theorem R.of_rep {K : PySem.W.Frag} {H0 : Hp} {g : Gh} {σ : St} {H : Hp} {w : W} {v : V} {o : Option Addr} (r : RepW K g.Z H w v o) (h : ∀ a, o = some a → g.Z a = none ∧ (∀ i, g.own i ≠ some a) ∧ H0 a = none) : RepR K H0 g σ H (.of w) v := by
  rcases r.own_of with ⟨d, rfl, rfl⟩ | ⟨a, rfl⟩
  · exact r.2
  · obtain ⟨h1, h2, h3⟩ := h a rfl
    cases w with
    | dat d => cases r.1
    | lst xs => exact ⟨a, r, h1, h2, h3⟩
    | dic ks ds => exact ⟨a, r, h1, h2, h3⟩
    | obj c ns ds => exact ⟨a, r, h1, h2, h3⟩
theorem Back.tail0 {K : PySem.W.Frag} {g : Gh} {ws : List W} {vs : List V} {H : Hp} {io : List W} {Z' H' : Hp} (b : Back K g ws vs H io Z' H') : Back K g (ws ++ []) (vs ++ []) H io Z' H' := by
  rw [List.append_nil, List.append_nil]; exact b
theorem Args0.length {K : PySem.W.Frag} {g : Gh} {ws : List W} {vs : List V} {H : Hp} (h : Args0 K g ws vs H) : ws.length = vs.length := by
  have := h.len
  rw [List.length_map, List.length_map] at this
  exact this
theorem spF_of {c : Ct} {F : Fn} {g0 g : Gh} {ρ : Rho} {σ : St} {H0 H : Hp} {as : List A} {vs : List V} {Q : VK} (x : Ext g0 H0 g H) (G : Rel c.K g ρ σ H) (ra : RepAs c.K g σ as vs) (p : Post c g0 σ H0 (repR c σ H0) Q (appF F as ρ)) :
    spF c.K F vs H Q fun cl d H' => c.W cl d σ H' := by
  unfold appF at p
  by_cases nd : (owns as).Nodup
  · rw [if_pos nd] at p
    cases e : argWs ρ as with
    | none => rw [e] at p; exact p.elim
    | some ws =>
      rw [e] at p
      dsimp only at p
      have a0 := args_start G ra nd e
      refine ⟨_, ws, a0.length, a0, ?_⟩
      cases eF : F ws with
      | stuck => rw [eF] at p; exact p.elim
      | ret w io =>
        rw [eF] at p
        by_cases hl : as.length ≤ io.length
        · simp only [if_pos hl] at p
          intro v H' Z' o b r ho
          obtain ⟨ex, G'⟩ := args_back G ra nd e b.tail0 hl
          refine p v H' _ (x.trans ex) G' (R.of_rep r fun a ea => ?_)
          obtain ⟨h1, h2, h3⟩ := ho a ea
          refine ⟨h1, fun i q => ?_, Classical.byContradiction fun n => x.fr2 a n h3⟩
          obtain ⟨o, z⟩ := G.alive q
          rw [h3] at z; cases z
        · simp only [if_neg hl] at p; exact p.elim
      | exc cn ns ds io =>
        rw [eF] at p
        by_cases hl : as.length ≤ io.length
        · simp only [if_pos hl] at p
          intro dx us H' Z' b e1 e2 e3
          obtain ⟨ex, G'⟩ := args_back G ra nd e b.tail0 hl
          exact p dx us H' _ (x.trans ex) G' e1 e2 e3
        · simp only [if_neg hl] at p; exact p.elim
  · rw [if_neg nd] at p; exact p.elim
def A.dats (ds : List D) : List A := ds.map A.dat
theorem RepAs.dats {K : PySem.W.Frag} {g : Gh} {σ : St} : ∀ {ds : List D} {vs : List V}, RepL K g.Z ds vs → RepAs K g σ (A.dats ds) vs
  | [], vs, h => by unfold RepL at h; subst h; exact .nil
  | d :: ds, vs, h => by
    unfold RepL at h
    obtain ⟨v, r, rfl, h1, h2⟩ := h
    exact .cons h1 (RepAs.dats h2)
def pick {α : Type} (π : List Nat) (xs : List α) : List α := π.filterMap fun i => xs[i]?
theorem RepAs.pick {K : PySem.W.Frag} {g : Gh} {σ : St} {as : List A} {vs : List V} (h : RepAs K g σ as vs) : ∀ π, RepAs K g σ (pick π as) (pick π vs)
  | [] => .nil
  | i :: π => by
    unfold Spl.pick
    cases e : as[i]? with
    | none =>
      have e2 : vs[i]? = none := by
        rw [List.getElem?_eq_none_iff] at e ⊢
        rw [← h.length]; exact e
      rw [List.filterMap_cons_none e, List.filterMap_cons_none e2]
      exact h.pick π
    | some a =>
      obtain ⟨v, hv, r⟩ := h.get e
      rw [List.filterMap_cons_some e, List.filterMap_cons_some hv]
      exact .cons r (h.pick π)
theorem vals_pick {vs : List V} {us : List Value} (h : Vals vs us) : ∀ π, Vals (pick π vs) (pick π us)
  | [] => .nil
  | i :: π => by
    unfold pick
    cases e : vs[i]? with
    | none =>
      have e2 : us[i]? = none := by
        rw [List.getElem?_eq_none_iff] at e ⊢
        rw [← h.length]; exact e
      rw [List.filterMap_cons_none e, List.filterMap_cons_none e2]
      exact vals_pick h π
    | some a =>
      obtain ⟨v, hv, r⟩ := h.get e
      rw [List.filterMap_cons_some e, List.filterMap_cons_some hv]
      exact .cons r (vals_pick h π)
/-- a call with keywords: π tells the place of each parameter's value among the written ones, the defaults, the keywords' -/
structure KP (K : PySem.W.Frag) (fd : FuncData) (ps : List Str) (n : Nat) (ks : List Str) (π : List Nat) (mv : List Value) : Prop where
  to : ∀ (s : Shared) (us ws : List Value), K.In s.heap → us.length = n → ws.length = ks.length → BindsTo s fd ⟨us, ks.zip ws⟩ (ps.zip (pick π (us ++ mv ++ ws)))
def tCallP (sp : Sp) (n m : Nat) (π : List Nat) (dvs : List V) (Wx : WX) (t tk : TA) : TE := fun σ H Q => t σ H fun vs H1 => tk σ H1 fun zs H2 => vs.length = n ∧ zs.length = m ∧ sp (pick π (vs ++ dvs ++ zs)) H2 Q fun c d H' => Wx c d σ H'
section
variable {X : Cx} {Wx : WX} {k n : Nat} {f C : Addr} {fd : FuncData} {ps ks : List Str} {sp : Sp} {π : List Nat} {dvs : List V} {mv : List Value} {x m : Str} {p pos apos : Pos} {e o : Expr} {es : List Expr} {kws : List Keyword} {ta : TE} {t tk : TA}
theorem run_gp {pins : List (Addr × Obj)} {σ : St} {H : Hp} {s : Shared} {Q : VK} {us ws : List Value} {vs zs : List V} (F : FnG X.prog X.w X.K X.mg X.base k f fd ps sp) (hr : Room k X.A) (hg : X.A.guards = some []) (tk : Takes X Wx)
    (hb : KP X.K fd ps n ks π mv) (hd : Vals dvs mv) (I : Inv X pins σ H s) (r : Vals vs us) (rz : Vals zs ws) (l1 : vs.length = n) (l2 : zs.length = ks.length) (h : sp (pick π (vs ++ dvs ++ zs)) H Q fun c d H' => Wx c d σ H') :
    wpAny (model X.prog X.w) X.A (call (.ref f) us (ks.zip ws)) (EP X pins σ Q) X.xe s := by
  have r2 := vals_pick ((r.append hd).append rz) π
  have hl : (pick π (us ++ mv ++ ws)).length = ps.length := r2.length.symm.trans (F.len _ _ _ _ h)
  refine wpAny_call (codeAny_mono (F.go X.A X.stack s H ⟨us, ks.zip ws⟩ _ _ Q _ hr hg I.env0 (hb.to s us ws I.kIn (r.length.symm.trans l1) (rz.length.symm.trans l2)) r2 h) ?_)
  intro r s' hq
  cases r with
  | error e => exact tk _ _ (XE.of_call I (fun _ _ _ z => z) hq)
  | ok fl =>
    cases fl with
    | ret u => exact I.after hq
    | next => exact hq.elim
    | brk => exact hq.elim
    | cont => exact hq.elim
theorem pe_callP (F : FnG X.prog X.w X.K X.mg X.base k f fd ps sp) (hr : Room k X.A) (hgu : X.A.guards = some []) (tk' : Takes X Wx) (hg : Gl X x) (hm : X.mg x = some (.ref f)) (hk : PySem.W.keepIn X.K (.ref f) = true) (hb : KP X.K fd ps n ks π mv) (hd : Vals dvs mv)
    (ha : PA X (e :: es) t) (hkw : PK X kws tk) (hall : (backToKw pos (keywordEach kws X.env)).all (·.1.isSome) = true) (hks : (backToKw pos (keywordEach kws X.env)).filterMap (·.1) = ks)
    (hdb : (x == ("__debug__" : Str)) = false) (he : starEach (e :: es) X.env = (false, eval e X.env) :: starEach es X.env)
    (hpl : ((backTo pos (starEach (e :: es) X.env)).any (·.1) || (backToKw pos (keywordEach kws X.env)).any (·.1.isNone)) = false) :
    PE X (.Call (.Name x p) (e :: es) kws pos) (tCallP sp n ks.length π dvs Wx t tk) := by
  refine ⟨fun pins s σ H Q I h => wpAny_Call_Name_kw (ld_glob I hg hm ?_ hdb)⟩
  refine PySem.W.callWith_KW (h₀ := X.base) I.ok.mod.kin hk hall (thn (ha.run pos pins s σ H _ I h) ?_) hpl he
  rintro us s1 ⟨vs, H1, I1, r, q⟩
  refine thn (hkw.run pos pins s1 σ H1 _ I1 q) ?_
  rintro ws s2 ⟨zs, H2, I2, rz, l1, l2, q2⟩
  refine ⟨I2.kIn, ?_⟩
  rw [hks]
  exact run_gp F hr hgu tk' hb hd I2 r rz l1 l2 q2
theorem pe_callP0 (F : FnG X.prog X.w X.K X.mg X.base k f fd ps sp) (hr : Room k X.A) (hgu : X.A.guards = some []) (tk' : Takes X Wx) (hg : Gl X x) (hm : X.mg x = some (.ref f)) (hk : PySem.W.keepIn X.K (.ref f) = true) (hb : KP X.K fd ps n ks π mv) (hd : Vals dvs mv)
    (hkw : PK X kws tk) (hall : (backToKw pos (keywordEach kws X.env)).all (·.1.isSome) = true) (hks : (backToKw pos (keywordEach kws X.env)).filterMap (·.1) = ks)
    (hdb : (x == ("__debug__" : Str)) = false) (hpl : ((backTo pos (starEach [] X.env)).any (·.1) || (backToKw pos (keywordEach kws X.env)).any (·.1.isNone)) = false) :
    PE X (.Call (.Name x p) [] kws pos) (tCallP sp n ks.length π dvs Wx tNil tk) := by
  refine ⟨fun pins s σ H Q I h => wpAny_Call_Name_kw (ld_glob I hg hm ?_ hdb)⟩
  refine PySem.W.callWith_KW0 (h₀ := X.base) I.ok.mod.kin hk hall ?_ hpl
  refine thn (hkw.run pos pins s σ H _ I h) ?_
  rintro ws s2 ⟨zs, H2, I2, rz, l1, l2, q2⟩
  refine ⟨I2.kIn, ?_⟩
  rw [hks]
  exact run_gp (us := []) F hr hgu tk' hb hd I2 .nil rz l1 l2 q2
end

/-! calls, simulated -/
def evCall (F : Fn) (dD : List D) (h : Rho → Rs (List A)) (ρ : Rho) : Rs R := (h ρ).bind fun as ρ1 => appF F (as ++ A.dats dD) ρ1
def evCallK (F : Fn) (n m : Nat) (π : List Nat) (dD : List D) (h k : Rho → Rs (List A)) (ρ : Rho) : Rs R := (h ρ).bind fun as ρ1 => (k ρ1).bind fun bs ρ2 =>
  if as.length = n ∧ bs.length = m then appF F (pick π (as ++ A.dats dD ++ bs)) ρ2 else .stuck
/-- defaults, seen as data at any heap -/
def RepDef (K : PySem.W.Frag) (dD : List D) (dvs : List V) : Prop := ∀ Z, RepL K Z dD dvs
theorem RepDef.nil {K : PySem.W.Frag} : RepDef K [] [] := fun _ => .nil
section
variable {X : Cx} {Wx : WX} {io : List Nat} {k n : Nat} {f C : Addr} {fd : FuncData} {ps ks : List Str} {F : Fn} {π : List Nat} {dvs : List V} {dD : List D} {ds mv : List Value} {x m : Str} {p pos apos : Pos} {e o : Expr} {es : List Expr} {kws : List Keyword} {h hk' : Rho → Rs (List A)}
theorem t_call {σ : St} {H : Hp} {Q : VK} (hD : RepDef X.K dD dvs) (q : tS ⟨X.K, Wx, io⟩ (evCall F dD h) σ H Q) : tCallG (spF X.K F) dvs Wx (tAs ⟨X.K, Wx, io⟩ h) σ H Q := by
  obtain ⟨ρ, g, hio, G, p⟩ := q
  refine tAs.bind hio (.refl g H) G p fun as ρ1 g1 vs H1 _ x1 G1 r1 p1 => ?_
  exact spF_of (c := ⟨X.K, Wx, io⟩) x1 G1 (r1.append (.dats (hD _))) p1
theorem SE_call (Fg : FnG X.prog X.w X.K X.mg X.base k f fd ps (spF X.K F)) (hr : Room k X.A) (hgu : X.A.guards = some []) (tk : Takes X Wx) (hg : Gl X x) (hm : X.mg x = some (.ref f)) (hk : PySem.W.keepIn X.K (.ref f) = true) (hb : Binds X.K fd ps ds) (hd : Vals dvs ds) (hD : RepDef X.K dD dvs)
    (ha : SA X Wx io (e :: es) h) (hdb : (x == ("__debug__" : Str)) = false) (he : starEach (e :: es) X.env = (false, eval e X.env) :: starEach es X.env) (hpl : (backTo pos (starEach es X.env)).any (·.1) = false) :
    SE X Wx io (.Call (.Name x p) (e :: es) [] pos) (evCall F dD h) := PE.imp (pe_callG Fg hr hgu tk hg hm hk hb hd ha hdb he hpl) fun _ _ _ q => t_call hD q
theorem SE_call0 (Fg : FnG X.prog X.w X.K X.mg X.base k f fd ps (spF X.K F)) (hr : Room k X.A) (hgu : X.A.guards = some []) (tk : Takes X Wx) (hg : Gl X x) (hm : X.mg x = some (.ref f)) (hk : PySem.W.keepIn X.K (.ref f) = true) (hb : Binds X.K fd ps ds) (hd : Vals dvs ds) (hD : RepDef X.K dD dvs)
    (hdb : (x == ("__debug__" : Str)) = false) : SE X Wx io (.Call (.Name x p) [] [] pos) (evCall F dD aNil) := PE.imp (pe_callG0 Fg hr hgu tk hg hm hk hb hd hdb) fun σ H Q q => by
  obtain ⟨ρ, g, hio, G, p⟩ := q
  exact spF_of (c := ⟨X.K, Wx, io⟩) (.refl g H) G ((RepAs.nil (g := g) (σ := σ)).append (.dats (hD _))) p
theorem t_callK {σ : St} {H : Hp} {Q : VK} (hD : RepDef X.K dD dvs) {t : TA} (ht : t = tAs ⟨X.K, Wx, io⟩ h) {m : Nat} (q : tS ⟨X.K, Wx, io⟩ (evCallK F n m π dD h hk') σ H Q) : tCallP (spF X.K F) n m π dvs Wx t (tAs ⟨X.K, Wx, io⟩ hk') σ H Q := by
  subst ht
  obtain ⟨ρ, g, hio, G, p⟩ := q
  refine tAs.bind hio (.refl g H) G p fun as ρ1 g1 vs H1 _ x1 G1 r1 p1 => ?_
  refine tAs.bind hio x1 G1 p1 fun bs ρ2 g2 us H2 x12 x2 G2 r2 p2 => ?_
  by_cases hl : as.length = n ∧ bs.length = m
  · rw [if_pos hl] at p2
    exact ⟨r1.length.symm.trans hl.1, r2.length.symm.trans hl.2, spF_of (c := ⟨X.K, Wx, io⟩) x2 G2 ((((r1.ext x12.z).append (.dats (hD _))).append r2).pick π) p2⟩
  · rw [if_neg hl] at p2; exact p2.elim
theorem SE_callK {m : Nat} (Fg : FnG X.prog X.w X.K X.mg X.base k f fd ps (spF X.K F)) (hr : Room k X.A) (hgu : X.A.guards = some []) (tk : Takes X Wx) (hg : Gl X x) (hm : X.mg x = some (.ref f)) (hk : PySem.W.keepIn X.K (.ref f) = true) (hb : KP X.K fd ps n ks π mv) (hd : Vals dvs mv) (hD : RepDef X.K dD dvs)
    (ha : SA X Wx io (e :: es) h) (hkw : SK X Wx io kws hk') (hall : (backToKw pos (keywordEach kws X.env)).all (·.1.isSome) = true) (hks : (backToKw pos (keywordEach kws X.env)).filterMap (·.1) = ks)
    (hdb : (x == ("__debug__" : Str)) = false) (he : starEach (e :: es) X.env = (false, eval e X.env) :: starEach es X.env)
    (hpl : ((backTo pos (starEach (e :: es) X.env)).any (·.1) || (backToKw pos (keywordEach kws X.env)).any (·.1.isNone)) = false) (hm' : ks.length = m) :
    SE X Wx io (.Call (.Name x p) (e :: es) kws pos) (evCallK F n m π dD h hk') := hm' ▸ PE.imp (pe_callP Fg hr hgu tk hg hm hk hb hd ha hkw hall hks hdb he hpl) fun _ _ _ q => t_callK hD rfl q
theorem SE_callK0 {m : Nat} (Fg : FnG X.prog X.w X.K X.mg X.base k f fd ps (spF X.K F)) (hr : Room k X.A) (hgu : X.A.guards = some []) (tk : Takes X Wx) (hg : Gl X x) (hm : X.mg x = some (.ref f)) (hk : PySem.W.keepIn X.K (.ref f) = true) (hb : KP X.K fd ps 0 ks π mv) (hd : Vals dvs mv) (hD : RepDef X.K dD dvs)
    (hkw : SK X Wx io kws hk') (hall : (backToKw pos (keywordEach kws X.env)).all (·.1.isSome) = true) (hks : (backToKw pos (keywordEach kws X.env)).filterMap (·.1) = ks)
    (hdb : (x == ("__debug__" : Str)) = false) (hpl : ((backTo pos (starEach [] X.env)).any (·.1) || (backToKw pos (keywordEach kws X.env)).any (·.1.isNone)) = false) (hm' : ks.length = m) :
    SE X Wx io (.Call (.Name x p) [] kws pos) (evCallK F 0 m π dD aNil hk') := by
  subst hm'
  refine PE.imp (pe_callP0 Fg hr hgu tk hg hm hk hb hd hkw hall hks hdb hpl) fun σ H Q q => ?_
  obtain ⟨ρ, g, hio, G, p⟩ := q
  refine tAs.bind hio (.refl g H) G p fun bs ρ2 g2 us H2 x12 x2 G2 r2 p2 => ?_
  by_cases hl : ([] : List A).length = 0 ∧ bs.length = ks.length
  · rw [if_pos hl] at p2
    exact ⟨rfl, r2.length.symm.trans hl.2, spF_of (c := ⟨X.K, Wx, io⟩) x2 G2 ((((RepAs.nil (g := g2) (σ := σ)).append (.dats (hD _))).append r2).pick π) p2⟩
  · rw [if_neg hl] at p2; exact p2.elim
end
end Spl

namespace Spl
open PySem PySem.Spec L2

/-! statements -/
inductive Fl where
  | nx | bk | ct | rt (r : R)
def PostS (c : Ct) (g : Gh) (σ : St) (H : Hp) (D : Ends) : Rs Fl → Prop
  | .ok .nx ρ' => ∀ σ' H' g', Ext g H g' H' → Rel c.K g' ρ' σ' H' → D.nx σ' H'
  | .ok .bk ρ' => ∀ σ' H' g', Ext g H g' H' → Rel c.K g' ρ' σ' H' → D.bk σ' H'
  | .ok .ct ρ' => ∀ σ' H' g', Ext g H g' H' → Rel c.K g' ρ' σ' H' → D.ct σ' H'
  | .ok (.rt r) ρ' => ∀ v σ' H' g', Ext g H g' H' → Rel c.K g' ρ' σ' H' → RepR c.K H g' σ' H' r v → D.rt v H'
  | .exc cn ns ds ρ' => ∀ dx vs σ' H' g', Ext g H g' H' → Rel c.K g' ρ' σ' H' → H' dx = some (.xd (ns.zip vs)) → ns.length = vs.length → RepL c.K g'.Z ds vs → c.W (.ref (He.ga c.K cn)) (some dx) σ' H'
  | .stuck => False
def tSt (c : Ct) (f : Rho → Rs Fl) : TS := fun D σ H => ∃ ρ g, g.io = c.io ∧ Rel c.K g ρ σ H ∧ PostS c g σ H D (f ρ)
def SSt (X : Cx) (Wx : WX) (io : List Nat) (st : Stmt) (f : Rho → Rs Fl) : Prop := PS X st (tSt ⟨X.K, Wx, io⟩ f)
def SSs (X : Cx) (Wx : WX) (io : List Nat) (st : List Stmt) (f : Rho → Rs Fl) : Prop := PSs X st (tSt ⟨X.K, Wx, io⟩ f)
theorem PS.imp {X : Cx} {e : Stmt} {t t' : TS} (h : PS X e t) (i : ∀ D σ H, t' D σ H → t D σ H) : PS X e t' := ⟨fun pins s σ H Q I q => h.run pins s σ H Q I (i Q σ H q)⟩
theorem PSs.imp {X : Cx} {e : List Stmt} {t t' : TS} (h : PSs X e t) (i : ∀ D σ H, t' D σ H → t D σ H) : PSs X e t' := ⟨fun pins s σ H Q I q => h.run pins s σ H Q I (i Q σ H q)⟩
theorem PostS.later {c : Ct} {g g1 : Gh} {σ σ1 : St} {H H1 : Hp} {D : Ends} {x : Rs Fl} (x1 : Ext g H g1 H1) (h : PostS c g σ H D x) : PostS c g1 σ1 H1 D x := by
  cases x with
  | stuck => exact h
  | exc cn ns ds ρ' => exact fun dx vs σ' H' g' x' => h dx vs σ' H' g' (x1.trans x')
  | ok a ρ' =>
    cases a with
    | nx => exact fun σ' H' g' x' => h σ' H' g' (x1.trans x')
    | bk => exact fun σ' H' g' x' => h σ' H' g' (x1.trans x')
    | ct => exact fun σ' H' g' x' => h σ' H' g' (x1.trans x')
    | rt r => exact fun v σ' H' g' x' G' q => h v σ' H' g' (x1.trans x') G' (RepR.from x1.fr2 q)
/-- other ends -/
theorem PostS.ends {c : Ct} {g : Gh} {σ : St} {H : Hp} {D D' : Ends} {x : Rs Fl} (h : PostS c g σ H D x) (h1 : ∀ σ H, D.nx σ H → D'.nx σ H) (h2 : ∀ v H, D.rt v H → D'.rt v H) (h3 : ∀ σ H, D.bk σ H → D'.bk σ H) (h4 : ∀ σ H, D.ct σ H → D'.ct σ H) : PostS c g σ H D' x := by
  cases x with
  | stuck => exact h
  | exc cn ns ds ρ' => exact h
  | ok a ρ' =>
    cases a with
    | nx => exact fun σ' H' g' x' G' => h1 _ _ (h σ' H' g' x' G')
    | bk => exact fun σ' H' g' x' G' => h3 _ _ (h σ' H' g' x' G')
    | ct => exact fun σ' H' g' x' G' => h4 _ _ (h σ' H' g' x' G')
    | rt r => exact fun v σ' H' g' x' G' q => h2 _ _ (h v σ' H' g' x' G' q)
/-- an expression's part of a statement -/
theorem tS.stmt {c : Ct} {g g1 : Gh} {ρ : Rho} {σ : St} {H H1 : Hp} {f : Rho → Rs R} {k : R → Rho → Rs Fl} {D : Ends} {T : V → Hp → Prop} (hio : g.io = c.io) (x1 : Ext g H g1 H1) (G : Rel c.K g1 ρ σ H1)
    (h : PostS c g σ H D ((f ρ).bind k)) (n : ∀ r ρ2 g2 v H2, Ext g1 H1 g2 H2 → Ext g H g2 H2 → Rel c.K g2 ρ2 σ H2 → RepR c.K H1 g2 σ H2 r v → PostS c g σ H D (k r ρ2) → T v H2) : tS c f σ H1 T := by
  refine ⟨ρ, g1, x1.io.trans hio, G, ?_⟩
  cases e : f ρ with
  | stuck => rw [e] at h; exact h
  | exc cn ns ds ρ' => rw [e] at h; exact fun dx vs H' g' x' G' e1 e2 e3 => h dx vs σ H' g' (x1.trans x') G' e1 e2 e3
  | ok r ρ2 =>
    rw [e] at h
    exact fun v H2 g2 x2 G2 r2 => n r ρ2 g2 v H2 x2 (x1.trans x2) G2 r2 h
theorem tT.stmt {c : Ct} {g g1 : Gh} {ρ : Rho} {σ : St} {H H1 : Hp} {f : Rho → Rs Bool} {k : Bool → Rho → Rs Fl} {D : Ends} {T : Bool → Hp → Prop} (hio : g.io = c.io) (x1 : Ext g H g1 H1) (G : Rel c.K g1 ρ σ H1)
    (h : PostS c g σ H D ((f ρ).bind k)) (n : ∀ r ρ2 g2 H2, Ext g1 H1 g2 H2 → Ext g H g2 H2 → Rel c.K g2 ρ2 σ H2 → PostS c g σ H D (k r ρ2) → T r H2) : tT c f σ H1 T := by
  refine ⟨ρ, g1, x1.io.trans hio, G, ?_⟩
  cases e : f ρ with
  | stuck => rw [e] at h; exact h
  | exc cn ns ds ρ' => rw [e] at h; exact fun dx vs H' g' x' G' e1 e2 e3 => h dx vs σ H' g' (x1.trans x') G' e1 e2 e3
  | ok r ρ2 =>
    rw [e] at h
    intro v H2 g2 x2 G2 r2
    have r2 : r = v := r2
    subst r2
    exact n r ρ2 g2 H2 x2 (x1.trans x2) G2 h
theorem PostS.optb {c : Ct} {g : Gh} {σ : St} {H : Hp} {D : Ends} {α : Type} {o : Option α} {ρ : Rho} {k : α → Rho → Rs Fl} (p : PostS c g σ H D ((opt o ρ).bind k)) : ∃ a, o = some a ∧ PostS c g σ H D (k a ρ) := by
  cases o with
  | none => exact p.elim
  | some a => exact ⟨a, rfl, p⟩
/-- a part of a statement, in two: what it stores -/
theorem PostS.frzb {c : Ct} {g g1 : Gh} {ρ : Rho} {σ : St} {H H1 : Hp} {E : Ends} {r : R} {v : V} {k : D → Rho → Rs Fl} (hio : g.io = c.io) (x : Ext g H g1 H1) (G : Rel c.K g1 ρ σ H1) (h : RepR c.K H g1 σ H1 r v)
    (p : PostS c g σ H E ((freeze c.io r ρ).bind k)) : ∃ d ρ2 g2, Ext g H g2 H1 ∧ Rel c.K g2 ρ2 σ H1 ∧ RepD c.K g2.Z d v ∧ PostS c g σ H E (k d ρ2) := by
  rcases freeze_ok x G h with e | ⟨d, ρ', g', e, x', G', rd⟩
  · rw [hio] at e; rw [e] at p; exact p.elim
  · rw [hio] at e; rw [e] at p; exact ⟨d, ρ', g', x', G', rd, p⟩

def stNx (ρ : Rho) : Rs Fl := .ok .nx ρ
def stSeq (f h : Rho → Rs Fl) (ρ : Rho) : Rs Fl := (f ρ).bind fun fl ρ1 => match fl with
  | .nx => h ρ1
  | o => .ok o ρ1
def stExpr (f : Rho → Rs R) (ρ : Rho) : Rs Fl := (f ρ).bind fun _ ρ1 => .ok .nx ρ1
def stRet (f : Rho → Rs R) (ρ : Rho) : Rs Fl := (f ρ).bind fun r ρ1 => .ok (.rt r) ρ1
def stIf (p : Rho → Rs Bool) (f h : Rho → Rs Fl) (ρ : Rho) : Rs Fl := (p ρ).bind fun b ρ1 => if b = true then f ρ1 else h ρ1
def un (x : Rs Unit) : Rs Fl := x.bind fun _ ρ => .ok .nx ρ
def stSet (io : List Nat) (i : Nat) (f : Rho → Rs R) (ρ : Rho) : Rs Fl := (f ρ).bind fun r ρ1 => un (store io i r ρ1)
section
variable {X : Cx} {Wx : WX} {io : List Nat} {st : Stmt} {rest a b : List Stmt} {f h : Rho → Rs Fl} {q : Rho → Rs R} {p : Rho → Rs Bool} {pos pos' : Pos} {e c : Expr}
theorem SSs_nil : SSs X Wx io [] stNx := PSs.imp pss_nil fun D σ H ⟨ρ, g, hio, G, q⟩ => q σ H g (.refl g H) G
theorem SSs_cons (h1 : SSt X Wx io st f) (h2 : SSs X Wx io rest h) : SSs X Wx io (st :: rest) (stSeq f h) := PSs.imp (pss_cons h1 h2) fun D σ H ⟨ρ, g, hio, G, q⟩ => by
  refine ⟨ρ, g, hio, G, ?_⟩
  unfold stSeq at q
  cases e : f ρ with
  | stuck => rw [e] at q; exact q
  | exc cn ns ds ρ' => rw [e] at q; exact q
  | ok fl ρ1 =>
    rw [e] at q
    cases fl with
    | nx => exact fun σ' H' g' x' G' => ⟨ρ1, g', x'.io.trans hio, G', PostS.later x' q⟩
    | bk => exact q
    | ct => exact q
    | rt r => exact q
theorem SSs_one (h1 : SSt X Wx io st f) : SSs X Wx io [st] f := pss_one h1
theorem SSt_pass : SSt X Wx io (.Pass pos) stNx := PS.imp ps_pass fun D σ H ⟨ρ, g, hio, G, q⟩ => q σ H g (.refl g H) G
theorem SSt_break : SSt X Wx io (.Break pos) (.ok .bk) := PS.imp ps_break fun D σ H ⟨ρ, g, hio, G, q⟩ => q σ H g (.refl g H) G
theorem SSt_continue : SSt X Wx io (.Continue pos) (.ok .ct) := PS.imp ps_continue fun D σ H ⟨ρ, g, hio, G, q⟩ => q σ H g (.refl g H) G
theorem SSt_doc {x : Str} {j : Nat} : SSt X Wx io (.Expr (.Constant (.str x) j pos) pos') stNx := PS.imp ps_doc fun D σ H ⟨ρ, g, hio, G, q⟩ => q σ H g (.refl g H) G
theorem SSt_expr (he : SE X Wx io e q) (hs : swapsWith e none pos.line X.env = pure false) : SSt X Wx io (.Expr e pos) (stExpr q) := PS.imp (ps_expr he hs) fun D σ H ⟨ρ, g, hio, G, q⟩ =>
  tS.stmt hio (.refl g H) G q fun r ρ2 g2 v H2 _ x2 G2 _ p => p σ H2 g2 x2 G2
theorem SSt_ret (he : SE X Wx io e q) : SSt X Wx io (.Return (some e) pos) (stRet q) := PS.imp (ps_ret he) fun D σ H ⟨ρ, g, hio, G, q⟩ =>
  tS.stmt hio (.refl g H) G q fun r ρ2 g2 v H2 _ x2 G2 r2 p => p v σ H2 g2 x2 G2 r2
theorem SSt_retN : SSt X Wx io (.Return none pos) (.ok (.rt (.val .non))) := PS.imp ps_retN fun D σ H ⟨ρ, g, hio, G, q⟩ => q .non σ H g (.refl g H) G (show RepD X.K g.Z .non .non from repN)
theorem SSt_if (hc : ST X Wx io c p) (ha : SSs X Wx io a f) (hb : SSs X Wx io b h) : SSt X Wx io (.If c a b pos) (stIf p f h) := PS.imp (ps_if hc ha hb) fun D σ H ⟨ρ, g, hio, G, q⟩ =>
  tT.stmt hio (.refl g H) G q fun k ρ2 g2 H2 _ x2 G2 p => by
    cases k with
    | true => exact ⟨ρ2, g2, x2.io.trans hio, G2, PostS.later x2 p⟩
    | false => exact ⟨ρ2, g2, x2.io.trans hio, G2, PostS.later x2 p⟩
theorem PostS.stored {c : Ct} {g g1 : Gh} {ρ1 : Rho} {σ : St} {H H1 : Hp} {E : Ends} {i : Nat} {r : R} {v : V} (hio : g.io = c.io) (x1 : Ext g H g1 H1) (G1 : Rel c.K g1 ρ1 σ H1) (r1 : RepR c.K H g1 σ H1 r v)
    (p : PostS c g σ H E (un (store c.io i r ρ1))) : E.nx (σ.set i (some v)) H1 := by
  rcases store_okR (i := i) x1 G1 r1 with e | ⟨ρ', g', e, _, x', G'⟩
  · rw [hio] at e; rw [e] at p; exact p.elim
  · rw [hio] at e; rw [e] at p; exact p _ _ g' x' G'
theorem SSt_set {i : Nat} {x : Str} (hN : X.N.Nodup) (hi : X.N[i]? = some x) (hx : Loc X.env.scope x) (he : SE X Wx io e q) (hs : swapsWith e (some (.Name x pos')) pos.line X.env = pure false) (hf : X.fn x = true ∨ X.env.scope.names.lookup x = some .local) :
    SSt X Wx io (.Assign [.Name x pos'] e pos) (stSet io i q) := PS.imp (ps_set hN hi hx he hs hf) fun D σ H ⟨ρ, g, hio, G, q⟩ =>
  tS.stmt hio (.refl g H) G q fun r ρ2 g2 v H2 _ x2 G2 r2 p => PostS.stored (c := ⟨X.K, Wx, io⟩) hio x2 G2 r2 p
end

/-! targets that take frozen data -/
/-- they differ at the slots L alone -/
def Same (L : List Nat) (σ σ' : St) : Prop := σ'.length = σ.length ∧ ∀ i, i ∉ L → σ'[i]? = σ[i]?
theorem Same.refl (L : List Nat) (σ : St) : Same L σ σ := ⟨rfl, fun _ _ => rfl⟩
theorem Same.trans {L : List Nat} {a b c : St} (h : Same L a b) (k : Same L b c) : Same L a c := ⟨k.1.trans h.1, fun i hi => (k.2 i hi).trans (h.2 i hi)⟩
theorem Same.set {L : List Nat} {σ : St} {i : Nat} {v : Option V} (h : i ∈ L) : Same L σ (σ.set i v) := ⟨List.length_set, fun j hj => by rw [List.getElem?_set_ne (fun e => hj (by rw [← e]; exact h))]⟩
def PostG (c : Ct) (L : List Nat) (g : Gh) (σ : St) (H : Hp) (Q : St → Hp → Prop) : Rs Unit → Prop
  | .ok () ρ' => ∀ σ' H' g', Same L σ σ' → Ext g H g' H' → Rel c.K g' ρ' σ' H' → Q σ' H'
  | .exc cn ns ds ρ' => ∀ dx vs σ' H' g', Ext g H g' H' → Rel c.K g' ρ' σ' H' → H' dx = some (.xd (ns.zip vs)) → ns.length = vs.length → RepL c.K g'.Z ds vs → c.W (.ref (He.ga c.K cn)) (some dx) σ' H'
  | .stuck => False
def tSg (c : Ct) (L : List Nat) (f : D → Rho → Rs Unit) : TG := fun v σ H Q => ∃ d ρ g, g.io = c.io ∧ Rel c.K g ρ σ H ∧ RepD c.K g.Z d v ∧ PostG c L g σ H Q (f d ρ)
def tSgs (c : Ct) (L : List Nat) (f : List D → Rho → Rs Unit) : TGs := fun vs σ H Q => ∃ ds ρ g, g.io = c.io ∧ Rel c.K g ρ σ H ∧ RepL c.K g.Z ds vs ∧ PostG c L g σ H Q (f ds ρ)
def SG (X : Cx) (Wx : WX) (io L : List Nat) (tg : Expr) (f : D → Rho → Rs Unit) : Prop := PG X tg (tSg ⟨X.K, Wx, io⟩ L f)
def SGs (X : Cx) (Wx : WX) (io L : List Nat) (tg : List Expr) (f : List D → Rho → Rs Unit) : Prop := PGs X tg (tSgs ⟨X.K, Wx, io⟩ L f)
theorem PG.imp {X : Cx} {e : Expr} {t t' : TG} (h : PG X e t) (i : ∀ v σ H Q, t' v σ H Q → t v σ H Q) : PG X e t' := ⟨fun pins s σ H v u Q I r q => h.run pins s σ H v u Q I r (i v σ H Q q)⟩
theorem PGs.imp {X : Cx} {e : List Expr} {t t' : TGs} (h : PGs X e t) (i : ∀ v σ H Q, t' v σ H Q → t v σ H Q) : PGs X e t' := ⟨fun pins s σ H v u Q I r q => h.run pins s σ H v u Q I r (i v σ H Q q)⟩
theorem PostG.later {c : Ct} {L : List Nat} {g g1 : Gh} {σ σ1 : St} {H H1 : Hp} {Q : St → Hp → Prop} {x : Rs Unit} (x1 : Ext g H g1 H1) (s1 : Same L σ σ1) (h : PostG c L g σ H Q x) : PostG c L g1 σ1 H1 Q x := by
  cases x with
  | stuck => exact h
  | exc cn ns ds ρ' => exact fun dx vs σ' H' g' x' => h dx vs σ' H' g' (x1.trans x')
  | ok a ρ' => exact fun σ' H' g' s' x' => h σ' H' g' (s1.trans s') (x1.trans x')
def tgName (io : List Nat) (i : Nat) (d : D) (ρ : Rho) : Rs Unit := putW io i (.dat d) ρ
def tgNil (ds : List D) (ρ : Rho) : Rs Unit := match ds with
  | [] => .ok () ρ
  | _ => .stuck
def tgCons (f : D → Rho → Rs Unit) (h : List D → Rho → Rs Unit) (ds : List D) (ρ : Rho) : Rs Unit := match ds with
  | [] => .stuck
  | d :: r => (f d ρ).bind fun _ ρ1 => h r ρ1
def tgTup (n : Nat) (h : List D → Rho → Rs Unit) (d : D) (ρ : Rho) : Rs Unit := match d with
  | .tup ds => if ds.length = n then h ds ρ else .stuck
  | _ => .stuck
section
variable {X : Cx} {Wx : WX} {io L : List Nat} {e : Expr} {es : List Expr} {f : D → Rho → Rs Unit} {h : List D → Rho → Rs Unit} {q : Rho → Rs R} {pos : Pos}
theorem SG_name {i : Nat} {x : Str} (hL : i ∈ L) (hN : X.N.Nodup) (hi : X.N[i]? = some x) (hx : Loc X.env.scope x) (hf : X.fn x = true ∨ X.env.scope.names.lookup x = some .local) : SG X Wx io L (.Name x pos) (tgName io i) :=
  PG.imp (pg_name hN hi hx hf) fun v σ H Q ⟨d, ρ, g, hio, G, rd, p⟩ => by
    rcases putW_ok (i := i) (w := .dat d) (v := v) (o := none) (.refl g H) G ⟨rfl, rd⟩ (fun _ e => nomatch e) with e | ⟨ρ', g', e, _, x', G'⟩
    · rw [hio] at e
      unfold tgName at p
      rw [e] at p; exact p.elim
    · rw [hio] at e
      unfold tgName at p
      rw [e] at p; exact p _ _ g' (.set hL) x' G'
theorem SGs_nil : SGs X Wx io L [] tgNil := PGs.imp pgs_nil fun v σ H Q ⟨d, ρ, g, hio, G, rd, p⟩ => by
  cases d with
  | nil => unfold RepL at rd; exact ⟨rd, p σ H g (.refl L σ) (.refl g H) G⟩
  | cons d ds => exact p.elim
theorem SGs_cons (h1 : SG X Wx io L e f) (h2 : SGs X Wx io L es h) (hs : (assignEach (e :: es) X.env).map (·.2) = assign e X.env :: (assignEach es X.env).map (·.2)) : SGs X Wx io L (e :: es) (tgCons f h) :=
  PGs.imp (pgs_cons h1 h2 hs) fun v σ H Q ⟨d, ρ, g, hio, G, rd, p⟩ => by
    cases d with
    | nil => exact p.elim
    | cons d ds =>
      unfold RepL at rd
      obtain ⟨u, r, rfl, r1, r2⟩ := rd
      refine ⟨u, r, rfl, d, ρ, g, hio, G, r1, ?_⟩
      have p : PostG ⟨X.K, Wx, io⟩ L g σ H Q ((f d ρ).bind fun _ ρ1 => h ds ρ1) := p
      cases e : f d ρ with
      | stuck => rw [e] at p; exact p
      | exc cn ns ds ρ' => rw [e] at p; exact p
      | ok _ ρ1 =>
        rw [e] at p
        exact fun σ' H' g' s' x' G' => ⟨ds, ρ1, g', x'.io.trans hio, G', r2.sub (.of x'.z), PostG.later x' s' p⟩
theorem SG_tup {k n : Nat} (hc : X.calm = true) (h1 : SGs X Wx io L es h) (hn : (assignEach es X.env).length = n) (hst : (assignEach es X.env).findIdx? (·.1) = none) : SG X Wx io L (.Tuple es k pos) (tgTup n h) :=
  PG.imp (pg_tup hc h1 hn hst) fun v σ H Q ⟨d, ρ, g, hio, G, rd, p⟩ => by
    cases d with
    | tup ds =>
      unfold RepD at rd
      obtain ⟨a, vs, e, l, r⟩ := rd
      have p : PostG ⟨X.K, Wx, io⟩ L g σ H Q (if ds.length = n then h ds ρ else .stuck) := p
      by_cases hl : ds.length = n
      · rw [if_pos hl] at p
        exact ⟨a, vs, e, G.sub.sqT l, by rw [← r.length]; exact hl, ds, ρ, g, hio, G, r, p⟩
      · rw [if_neg hl] at p; exact p.elim
    | _ => exact p.elim
/-- target = e, e frozen -/
def stAsg (io : List Nat) (f : D → Rho → Rs Unit) (q : Rho → Rs R) (ρ : Rho) : Rs Fl := (q ρ).bind fun r ρ1 => (freeze io r ρ1).bind fun d ρ2 => un (f d ρ2)
theorem PostS.un {L : List Nat} {c : Ct} {g g1 : Gh} {σ : St} {H H1 : Hp} {E : Ends} {x : Rs Unit} (x1 : Ext g H g1 H1) (p : PostS c g σ H E (Spl.un x)) : PostG c L g1 σ H1 E.nx x := by
  cases x with
  | stuck => exact p
  | exc cn ns ds ρ' => exact fun dx vs σ' H' g' x' => p dx vs σ' H' g' (x1.trans x')
  | ok a ρ' => exact fun σ' H' g' s' x' => p σ' H' g' (x1.trans x')
theorem SSt_asg (he : SE X Wx io e q) {tg : Expr} (hg : SG X Wx io L tg f) (hs : swapsWithSole [tg] e pos.line X.env = pure false) (hw : swappedStores [tg] e X.env = pure none) (h1 : (assignEach [tg] X.env).map (·.2) = [assign tg X.env]) :
    SSt X Wx io (.Assign [tg] e pos) (stAsg io f q) := PS.imp (ps_asg he hg hs hw h1) fun D σ H ⟨ρ, g, hio, G, q⟩ =>
  tS.stmt hio (.refl g H) G q fun r ρ2 g2 v H2 _ x2 G2 r2 p => by
    obtain ⟨d, ρ3, g3, x3, G3, rd, p3⟩ := PostS.frzb (c := ⟨X.K, Wx, io⟩) hio x2 G2 r2 p
    exact ⟨d, ρ3, g3, x3.io.trans hio, G3, rd, PostS.un x3 p3⟩
end
end Spl

namespace Spl
open PySem PySem.Spec L2

/-! what is walked -/
structure Walk (K : PySem.W.Frag) (g : Gh) (H : Hp) (J : It) (xs : List D) : Prop where
  go : ∀ i g' H', Ext g H g' H' → Sub g'.Z H' → i < xs.length → J.go i H'
  yld : ∀ i g' H' x H'' d, Ext g H g' H' → Sub g'.Z H' → xs[i]? = some d → J.yld i H' x H'' → ∃ Z', NewOk g'.Z H' Z' H'' ∧ RepD K Z' d x
  stop : ∀ g' H', Ext g H g' H' → Sub g'.Z H' → J.stop xs.length H'
def repWk (c : Ct) : Gh → Hp → List D → It → Prop := fun g' H' xs J => Walk c.K g' H' J xs
def tI (c : Ct) (f : Rho → Rs (List D)) : TI := fun σ H R => ∃ ρ g, g.io = c.io ∧ Rel c.K g ρ σ H ∧ Post c g σ H (repWk c) R (f ρ)
def SI (X : Cx) (Wx : WX) (io : List Nat) (tg it : Expr) (f : Rho → Rs (List D)) : Prop := PI X tg it (tI ⟨X.K, Wx, io⟩ f)
theorem PI.imp {X : Cx} {tg e : Expr} {t t' : TI} (h : PI X tg e t) (i : ∀ σ H Q, t' σ H Q → t σ H Q) : PI X tg e t' := ⟨fun pins s σ H Q I q => h.run pins s σ H Q I (i σ H Q q)⟩
theorem Walk.lst {K : PySem.W.Frag} {g : Gh} {H : Hp} {a : Addr} {vs : List V} {xs : List D} (h : ∀ g' H', Ext g H g' H' → Sub g'.Z H' → SqL K H' a vs) (r : RepL K g.Z xs vs) : Walk K g H (Itl K a) xs where
  go := fun i g' H' x s hi => by
    rw [r.length] at hi
    exact ⟨vs, vs[i], h g' H' x s, by simp [hi]⟩
  yld := fun i g' H' y H'' d x s hd ⟨e, q⟩ => by
    subst e
    obtain ⟨v, hv, rv⟩ := r.get hd
    have := q vs (h g' _ x s)
    rw [hv] at this; cases this
    exact ⟨g'.Z, .refl s, rv.sub (.of x.z)⟩
  stop := fun g' H' x s => ⟨vs, h g' H' x s, by rw [r.length]; exact Nat.le_refl _⟩
theorem Walk.tup {K : PySem.W.Frag} {g : Gh} {H : Hp} {a : Addr} {vs : List V} {xs : List D} (h : ∀ g' H', Ext g H g' H' → Sub g'.Z H' → SqT K H' a vs) (r : RepL K g.Z xs vs) : Walk K g H (Itt K a) xs where
  go := fun i g' H' x s hi => by
    rw [r.length] at hi
    exact ⟨vs, vs[i], h g' H' x s, by simp [hi]⟩
  yld := fun i g' H' y H'' d x s hd ⟨e, q⟩ => by
    subst e
    obtain ⟨v, hv, rv⟩ := r.get hd
    have := q vs (h g' _ x s)
    rw [hv] at this; cases this
    exact ⟨g'.Z, .refl s, rv.sub (.of x.z)⟩
  stop := fun g' H' x s => ⟨vs, h g' H' x s, by rw [r.length]; exact Nat.le_refl _⟩
def upto : Int → Nat → List D
  | _, 0 => []
  | i, n + 1 => .int i :: upto (i + 1) n
theorem upto_len : ∀ (i : Int) (n : Nat), (upto i n).length = n
  | _, 0 => rfl
  | i, n + 1 => by rw [upto, List.length_cons, upto_len]
theorem upto_get : ∀ (i : Int) (n k : Nat) (d : D), (upto i n)[k]? = some d → d = .int (i + k)
  | _, 0, k, d, h => by simp [upto] at h
  | i, n + 1, 0, d, h => by rw [upto] at h; simp at h; rw [← h]; simp
  | i, n + 1, k + 1, d, h => by
    rw [upto] at h
    have := upto_get (i + 1) n k d (by simpa using h)
    rw [this]
    congr 1
    omega
theorem Walk.rng {K : PySem.W.Frag} {g : Gh} {H : Hp} {lo : Int} {n : Nat} : Walk K g H (Itr lo n) (upto lo n) where
  go := fun i g' H' x s hi => by rw [upto_len] at hi; exact hi
  yld := fun i g' H' y H'' d x s hd ⟨e, q⟩ => by
    subst e
    rw [upto_get _ _ _ _ hd, q]
    exact ⟨g'.Z, .refl s, repI⟩
  stop := fun g' H' x s => by rw [upto_len]; exact Nat.le_refl _
/-- a list or a tuple -/
def itSeq (io : List Nat) (f : Rho → Rs R) (ρ : Rho) : Rs (List D) := (f ρ).bind fun r ρ1 => (freeze io r ρ1).bind fun d ρ2 => opt d.items ρ2
def D.isTup : D → Bool
  | .tup _ => true
  | _ => false
def itLst (io : List Nat) (f : Rho → Rs R) (ρ : Rho) : Rs (List D) := (f ρ).bind fun r ρ1 => (freeze io r ρ1).bind fun d ρ2 => opt (if d.isTup = true then none else d.items) ρ2
def itTup (io : List Nat) (f : Rho → Rs R) (ρ : Rho) : Rs (List D) := (f ρ).bind fun r ρ1 => (freeze io r ρ1).bind fun d ρ2 => opt (if d.isTup = true then d.items else none) ρ2
/-- a range's end that is taken; the test is not to be run -/
def inR (j : Int) : Prop := -(2 ^ 62) ≤ j ∧ j < 2 ^ 62
noncomputable instance {j : Int} : Decidable (inR j) := Classical.propDecidable _
noncomputable def itR1 (f : Rho → Rs R) (ρ : Rho) : Rs (List D) := (f ρ).bind fun r ρ1 => (opt (r.int ρ1) ρ1).bind fun j ρ2 => if inR j then .ok (upto 0 j.toNat) ρ2 else .stuck
noncomputable def itR2 (f h : Rho → Rs R) (ρ : Rho) : Rs (List D) := (f ρ).bind fun r ρ1 => (h ρ1).bind fun q ρ2 => (opt (r.int ρ2) ρ2).bind fun i ρ3 => (opt (q.int ρ3) ρ3).bind fun j ρ4 =>
  if inR i ∧ inR j then .ok (upto i (j - i).toNat) ρ4 else .stuck
section
variable {X : Cx} {Wx : WX} {io : List Nat} {tg e a b : Expr} {f h : Rho → Rs R} {p pos : Pos}
theorem SI_lst (he : SE X Wx io e f) : SI X Wx io tg e (itLst io f) := PI.imp (pi_list he) fun σ H Q ⟨ρ, g, hio, G, q⟩ => by
  refine tS.bind hio (.refl g H) G q fun r ρ1 g1 v H1 _ x1 G1 r1 p1 => ?_
  obtain ⟨d, ρ2, g2, x2, G2, rd, p2⟩ := Post.frz (c := ⟨X.K, Wx, io⟩) hio x1 G1 r1 p1
  have fin : ∀ (a : Addr) (vs : List V) (xs : List D), d.items = some xs → d.isTup = false → v = .ref a → (∀ H', Sub g2.Z H' → SqL X.K H' a vs) → RepL X.K g2.Z xs vs → ∃ a, v = .ref a ∧ (∃ xs, SqL X.K H1 a xs) ∧ Q (Itl X.K a) H1 := by
    intro a vs xs ei et ev hs rl
    have p2 : Post ⟨X.K, Wx, io⟩ g σ H (repWk ⟨X.K, Wx, io⟩) Q (opt (if d.isTup = true then none else d.items) ρ2) := p2
    rw [et, if_neg Bool.false_ne_true, ei] at p2
    exact ⟨a, ev, ⟨vs, hs _ G2.sub⟩, p2 _ H1 g2 x2 G2 (Walk.lst (fun g' H' x s => hs H' (.trans x.z s)) rl)⟩
  cases d with
  | lst xs =>
    unfold RepD at rd
    obtain ⟨a, vs, e1, l, rl⟩ := rd
    exact fin a vs xs rfl rfl e1 (fun H' s => .of (s.lst l)) rl
  | scr xs =>
    unfold RepD at rd
    obtain ⟨a, e1, l⟩ := rd
    exact fin a _ _ rfl rfl e1 (fun H' s => s.sqL l) RepL.intsOf
  | _ => exact p2.elim
theorem SI_tup (he : SE X Wx io e f) : SI X Wx io tg e (itTup io f) := PI.imp (pi_tup he) fun σ H Q ⟨ρ, g, hio, G, q⟩ => by
  refine tS.bind hio (.refl g H) G q fun r ρ1 g1 v H1 _ x1 G1 r1 p1 => ?_
  obtain ⟨d, ρ2, g2, x2, G2, rd, p2⟩ := Post.frz (c := ⟨X.K, Wx, io⟩) hio x1 G1 r1 p1
  cases d with
  | tup xs =>
    unfold RepD at rd
    obtain ⟨a, vs, e1, l, rl⟩ := rd
    exact ⟨a, e1, ⟨vs, G2.sub.sqT l⟩, p2 _ H1 g2 x2 G2 (Walk.tup (fun g' H' x s => (Sub.trans x.z s).sqT l) rl)⟩
  | _ => exact p2.elim
theorem SI_range1 (hg : Gl X "range") (hm : X.mg "range" = none) (ha : SE X Wx io a f) (hs : starEach [a] X.env = [(false, eval a X.env)]) : SI X Wx io tg (.Call (.Name "range" p) [a] [] pos) (itR1 f) :=
  PI.imp (pi_range1 hg hm (pa_cons ha pa_nil hs) hs) fun σ H Q ⟨ρ, g, hio, G, q⟩ => by
    refine tS.bind hio (.refl g H) G q fun r ρ1 g1 v H1 _ x1 G1 r1 p1 => ?_
    obtain ⟨j, hj, p2⟩ := p1.optb
    by_cases hb : inR j
    · rw [if_pos hb] at p2
      exact ⟨j, by rw [R.int_v (c := ⟨X.K, Wx, io⟩) G1 r1 hj], hb.1, hb.2, p2 _ H1 g1 x1 G1 Walk.rng⟩
    · rw [if_neg hb] at p2; exact p2.elim
theorem SI_range2 (hg : Gl X "range") (hm : X.mg "range" = none) (ha : SE X Wx io a f) (hb : SE X Wx io b h) (hs : starEach [a, b] X.env = [(false, eval a X.env), (false, eval b X.env)]) (hs2 : starEach [b] X.env = [(false, eval b X.env)]) : SI X Wx io tg (.Call (.Name "range" p) [a, b] [] pos) (itR2 f h) :=
  PI.imp (pi_range2 hg hm (pa_cons ha (pa_cons hb pa_nil hs2) (hs.trans (congrArg _ hs2.symm))) hs hs2) fun σ H Q ⟨ρ, g, hio, G, q⟩ => by
    refine tS.bind hio (.refl g H) G q fun r ρ1 g1 v H1 _ x1 G1 r1 p1 => ?_
    refine tS.bind hio x1 G1 p1 fun s ρ2 g2 u H2 x12 x2 G2 r2 p2 => ?_
    obtain ⟨i, hi, p3⟩ := p2.optb
    obtain ⟨j, hj, p4⟩ := p3.optb
    by_cases hb : inR i ∧ inR j
    · rw [if_pos hb] at p4
      exact ⟨i, j, by rw [R.int_v (c := ⟨X.K, Wx, io⟩) G2 (r1.ext x12) hi, R.int_v (c := ⟨X.K, Wx, io⟩) G2 r2 hj], ⟨hb.1.1, hb.1.2, hb.2.1, hb.2.2⟩, p4 _ H2 g2 x2 G2 Walk.rng⟩
    · rw [if_neg hb] at p4; exact p4.elim
end

/-! for -/
def forL (tg : D → Rho → Rs Unit) (body : Rho → Rs Fl) : List D → Rho → Rs Fl
  | [], ρ => .ok .nx ρ
  | d :: ds, ρ => (tg d ρ).bind fun _ ρ1 => (body ρ1).bind fun fl ρ2 => match fl with
    | .nx => forL tg body ds ρ2
    | .ct => forL tg body ds ρ2
    | .bk => .ok .nx ρ2
    | .rt r => .ok (.rt r) ρ2
def stFor (it : Rho → Rs (List D)) (tg : D → Rho → Rs Unit) (body : Rho → Rs Fl) (ρ : Rho) : Rs Fl := (it ρ).bind fun xs ρ1 => forL tg body xs ρ1
theorem tI.stmt {c : Ct} {g g1 : Gh} {ρ : Rho} {σ : St} {H H1 : Hp} {f : Rho → Rs (List D)} {k : List D → Rho → Rs Fl} {E : Ends} {T : It → Hp → Prop} (hio : g.io = c.io) (x1 : Ext g H g1 H1) (G : Rel c.K g1 ρ σ H1)
    (h : PostS c g σ H E ((f ρ).bind k)) (n : ∀ xs ρ2 g2 J H2, Ext g1 H1 g2 H2 → Ext g H g2 H2 → Rel c.K g2 ρ2 σ H2 → Walk c.K g2 H2 J xs → PostS c g σ H E (k xs ρ2) → T J H2) : tI c f σ H1 T := by
  refine ⟨ρ, g1, x1.io.trans hio, G, ?_⟩
  cases e : f ρ with
  | stuck => rw [e] at h; exact h
  | exc cn ns ds ρ' => rw [e] at h; exact fun dx vs H' g' x' G' e1 e2 e3 => h dx vs σ H' g' (x1.trans x') G' e1 e2 e3
  | ok r ρ2 =>
    rw [e] at h
    exact fun v H2 g2 x2 G2 r2 => n r ρ2 g2 v H2 x2 (x1.trans x2) G2 r2 h
/-- a walk's turns -/
theorem for_turns {L : List Nat} {c : Ct} {g1 : Gh} {σ : St} {H1 : Hp} {E : Ends} {J : It} {xs : List D} {ρ1 : Rho} {ft : D → Rho → Rs Unit} {fb : Rho → Rs Fl} (hio : g1.io = c.io) (G1 : Rel c.K g1 ρ1 σ H1) (wk : Walk c.K g1 H1 J xs) (p : PostS c g1 σ H1 E (forL ft fb xs ρ1)) :
    ∃ W : Nat → Nat → St → Hp → Prop, (∃ m, W 0 m σ H1) ∧ ∀ i m σ H, W i m σ H → (J.stop i H ∧ E.nx σ H) ∨ (J.go i H ∧ ∃ N : St → Hp → Prop, (∀ σ' H', N σ' H' → ∃ m', m' < m ∧ W (i + 1) m' σ' H') ∧
      ∀ x H', J.yld i H x H' → tSg c L ft x σ H' fun σ2 H2 => tSt c fb { E with nx := N, ct := N, bk := E.nx } σ2 H2) := by
  refine ⟨fun i m σ' H' => i ≤ xs.length ∧ m = xs.length - i ∧ ∃ ρ' g', Ext g1 H1 g' H' ∧ Rel c.K g' ρ' σ' H' ∧ PostS c g' σ' H' E (forL ft fb (xs.drop i) ρ'), ⟨xs.length, Nat.zero_le _, by simp, ρ1, g1, .refl g1 H1, G1, p⟩, ?_⟩
  rintro i m σ' H' ⟨hi, rfl, ρ', g', x', G', p'⟩
  by_cases e : i = xs.length
  · subst e
    rw [List.drop_length] at p'
    exact .inl ⟨wk.stop g' H' x' G'.sub, p' σ' H' g' (.refl g' H') G'⟩
  · have hlt : i < xs.length := by omega
    refine .inr ⟨wk.go i g' H' x' G'.sub hlt, fun σ' H' => i + 1 ≤ xs.length ∧ ∃ ρ' g', Ext g1 H1 g' H' ∧ Rel c.K g' ρ' σ' H' ∧ PostS c g' σ' H' E (forL ft fb (xs.drop (i + 1)) ρ'), fun σ2 H2 h => ⟨xs.length - (i + 1), by omega, h.1, rfl, h.2⟩, fun x H'' y => ?_⟩
    have hd : xs[i]? = some xs[i] := by simp [hlt]
    obtain ⟨Z', nw, rd⟩ := wk.yld i g' H' x H'' _ x' G'.sub hd y
    obtain ⟨ex, G2⟩ := nw.ext G'
    rw [List.drop_eq_getElem_cons hlt] at p'
    have p' : PostS c g' σ' H' E ((ft xs[i] ρ').bind fun _ ρ1 => (fb ρ1).bind fun fl ρ2 => match fl with
      | .nx => forL ft fb (xs.drop (i + 1)) ρ2
      | .ct => forL ft fb (xs.drop (i + 1)) ρ2
      | .bk => .ok .nx ρ2
      | .rt r => .ok (.rt r) ρ2) := p'
    refine ⟨xs[i], ρ', _, ex.io.trans (x'.io.trans hio), G2, rd, ?_⟩
    cases e : ft xs[i] ρ' with
    | stuck => rw [e] at p'; exact p'
    | exc cn ns ds ρ3 => rw [e] at p'; exact fun dx vs σ3 H3 g3 x3 => p' dx vs σ3 H3 g3 (ex.trans x3)
    | ok u ρ3 =>
      rw [e] at p'
      intro σ3 H3 g3 _ x3 G3
      refine ⟨ρ3, g3, x3.io.trans (ex.io.trans (x'.io.trans hio)), G3, ?_⟩
      have p' : PostS c g' σ' H' E ((fb ρ3).bind fun fl ρ2 => match fl with
        | .nx => forL ft fb (xs.drop (i + 1)) ρ2
        | .ct => forL ft fb (xs.drop (i + 1)) ρ2
        | .bk => .ok .nx ρ2
        | .rt r => .ok (.rt r) ρ2) := p'
      have p3 := PostS.later (σ1 := σ3) (ex.trans x3) p'
      cases e3 : fb ρ3 with
      | stuck => rw [e3] at p3; exact p3
      | exc cn ns ds ρ4 => rw [e3] at p3; exact p3
      | ok fl ρ4 =>
        rw [e3] at p3
        cases fl with
        | nx => exact fun σ4 H4 g4 x4 G4 => ⟨hlt, ρ4, g4, x'.trans (ex.trans (x3.trans x4)), G4, PostS.later x4 p3⟩
        | ct => exact fun σ4 H4 g4 x4 G4 => ⟨hlt, ρ4, g4, x'.trans (ex.trans (x3.trans x4)), G4, PostS.later x4 p3⟩
        | bk => exact p3
        | rt r => exact p3
section
variable {X : Cx} {Wx : WX} {io L : List Nat} {tg it : Expr} {body : List Stmt} {fi : Rho → Rs (List D)} {ft : D → Rho → Rs Unit} {fb : Rho → Rs Fl} {pos : Pos}
theorem SSt_for (hp : PassesOwn (model X.prog X.w) X.A X.env X.xe) (hc : X.calm = true) (hi : SI X Wx io tg it fi) (hg : SG X Wx io L tg ft) (hb : SSs X Wx io body fb) (hs : ∀ x, foldedSetIterable it X.env x = pure x) : SSt X Wx io (.For tg it body [] pos) (stFor fi ft fb) :=
  PS.imp (ps_for hp hc hi hg hb hs) fun D σ H ⟨ρ, g, hio, G, q⟩ =>
    tI.stmt hio (.refl g H) G q fun xs ρ1 g1 J H1 _ x1 G1 wk p1 => for_turns (c := ⟨X.K, Wx, io⟩) (x1.io.trans hio) G1 wk (PostS.later x1 p1)
end

/-! while -/
def whileF (t : Rho → Rs Bool) (b : Rho → Rs Fl) : Nat → Rho → Rs Fl
  | 0, _ => .stuck
  | n + 1, ρ => (t ρ).bind fun k ρ1 => if k = true then (b ρ1).bind fun fl ρ2 => match fl with
      | .nx => whileF t b n ρ2
      | .ct => whileF t b n ρ2
      | .bk => .ok .nx ρ2
      | .rt r => .ok (.rt r) ρ2
    else .ok .nx ρ1
theorem Rs.bind_stuck {α β : Type} {x : Rs α} {f : α → Rho → Rs β} (h : x.bind f ≠ .stuck) : (∃ a ρ, x = .ok a ρ ∧ f a ρ ≠ .stuck) ∨ ∃ c ns ds ρ, x = .exc c ns ds ρ := by
  cases x with
  | ok a ρ => exact .inl ⟨a, ρ, rfl, h⟩
  | exc c ns ds ρ => exact .inr ⟨c, ns, ds, ρ, rfl⟩
  | stuck => exact absurd rfl h
theorem whileF_mono {t : Rho → Rs Bool} {b : Rho → Rs Fl} : ∀ {n : Nat} {ρ : Rho}, whileF t b n ρ ≠ .stuck → whileF t b (n + 1) ρ = whileF t b n ρ
  | 0, ρ, h => absurd rfl h
  | n + 1, ρ, h => by
    rw [whileF] at h
    rw [whileF, whileF]
    rcases Rs.bind_stuck h with ⟨k, ρ1, e, h⟩ | ⟨c, ns, ds, ρ1, e⟩
    · rw [e]
      show (if k = true then _ else _) = (if k = true then _ else _)
      by_cases hk : k = true
      · rw [if_pos hk] at h
        rw [if_pos hk, if_pos hk]
        rcases Rs.bind_stuck h with ⟨fl, ρ2, e2, h⟩ | ⟨c, ns, ds, ρ1, e2⟩
        · rw [e2]
          cases fl with
          | nx => exact whileF_mono h
          | ct => exact whileF_mono h
          | bk => rfl
          | rt r => rfl
        · rw [e2]; rfl
      · rw [if_neg hk, if_neg hk]
    · rw [e]; rfl
theorem whileF_le {t : Rho → Rs Bool} {b : Rho → Rs Fl} {n : Nat} {ρ : Rho} (h : whileF t b n ρ ≠ .stuck) : ∀ k, whileF t b (n + k) ρ = whileF t b n ρ
  | 0 => rfl
  | k + 1 => by
    have := whileF_le h k
    rw [← Nat.add_assoc, whileF_mono (by rw [this]; exact h), this]
open Classical in
noncomputable def stWhile (t : Rho → Rs Bool) (b : Rho → Rs Fl) (ρ : Rho) : Rs Fl := if h : ∃ n, whileF t b n ρ ≠ .stuck then whileF t b h.choose ρ else .stuck
theorem stWhile_of {t : Rho → Rs Bool} {b : Rho → Rs Fl} {n : Nat} {ρ : Rho} (h : whileF t b n ρ ≠ .stuck) : stWhile t b ρ = whileF t b n ρ := by
  have ex : ∃ n, whileF t b n ρ ≠ .stuck := ⟨n, h⟩
  unfold stWhile
  rw [dif_pos ex]
  have h1 := whileF_le ex.choose_spec n
  have h2 := whileF_le h ex.choose
  rw [Nat.add_comm] at h2
  exact h1.symm.trans h2
theorem stWhile_cases (t : Rho → Rs Bool) (b : Rho → Rs Fl) (ρ : Rho) : stWhile t b ρ = .stuck ∨ ∃ n, whileF t b n ρ ≠ .stuck ∧ stWhile t b ρ = whileF t b n ρ := by
  by_cases ex : ∃ n, whileF t b n ρ ≠ .stuck
  · obtain ⟨n, h⟩ := ex
    exact .inr ⟨n, h, stWhile_of h⟩
  · exact .inl (by unfold stWhile; rw [dif_neg ex])
/-- one turn -/
theorem stWhile_eq (t : Rho → Rs Bool) (b : Rho → Rs Fl) (ρ : Rho) : stWhile t b ρ = (t ρ).bind fun k ρ1 => if k = true then (b ρ1).bind fun fl ρ2 => match fl with
      | .nx => stWhile t b ρ2
      | .ct => stWhile t b ρ2
      | .bk => .ok .nx ρ2
      | .rt r => .ok (.rt r) ρ2
    else .ok .nx ρ1 := by
  cases e : t ρ with
  | stuck =>
    rcases stWhile_cases t b ρ with h | ⟨n, h, h2⟩
    · rw [h]; rfl
    · cases n with
      | zero => exact absurd rfl h
      | succ n => rw [h2, whileF, e]; rfl
  | exc c ns ds ρ1 =>
    have h : whileF t b 1 ρ ≠ .stuck := by rw [whileF, e]; exact fun z => nomatch z
    rw [stWhile_of h, whileF, e]; rfl
  | ok k ρ1 =>
    show _ = (if k = true then _ else _)
    by_cases hk : k = true
    · rw [if_pos hk]
      have st : ∀ n, whileF t b (n + 1) ρ = (b ρ1).bind fun fl ρ2 => match fl with
        | .nx => whileF t b n ρ2
        | .ct => whileF t b n ρ2
        | .bk => .ok .nx ρ2
        | .rt r => .ok (.rt r) ρ2 := fun n => by
          rw [whileF, e]
          show (if k = true then _ else _) = _
          rw [if_pos hk]
      have main : ∀ ρ2, (∀ n, whileF t b (n + 1) ρ = whileF t b n ρ2) → stWhile t b ρ = stWhile t b ρ2 := by
        intro ρ2 h
        rcases stWhile_cases t b ρ2 with h2 | ⟨n, h2, h3⟩
        · rw [h2]
          rcases stWhile_cases t b ρ with h3 | ⟨n, h3, h4⟩
          · exact h3
          · cases n with
            | zero => exact absurd rfl h3
            | succ n =>
              exfalso
              rw [h n] at h3
              rw [stWhile_of h3] at h2
              exact h3 h2
        · rw [h3, ← h n]
          exact stWhile_of (by rw [h n]; exact h2)
      cases e2 : b ρ1 with
      | stuck =>
        rcases stWhile_cases t b ρ with h3 | ⟨n, h3, h4⟩
        · exact h3
        · cases n with
          | zero => exact absurd rfl h3
          | succ n => rw [st n, e2] at h3; exact absurd rfl h3
      | exc c ns ds ρ3 =>
        rw [stWhile_of (n := 1) (by rw [st 0, e2]; exact fun z => nomatch z), st 0, e2]; rfl
      | ok fl ρ2 =>
        cases fl with
        | nx => exact main ρ2 fun n => by rw [st n, e2]; rfl
        | ct => exact main ρ2 fun n => by rw [st n, e2]; rfl
        | bk => rw [stWhile_of (n := 1) (by rw [st 0, e2]; exact fun z => nomatch z), st 0, e2]; rfl
        | rt r => rw [stWhile_of (n := 1) (by rw [st 0, e2]; exact fun z => nomatch z), st 0, e2]; rfl
    · rw [if_neg hk]
      have h : whileF t b 1 ρ ≠ .stuck := by
        rw [whileF, e]
        show (if k = true then _ else _) ≠ _
        rw [if_neg hk]
        exact fun z => nomatch z
      rw [stWhile_of h, whileF, e]
      show (if k = true then _ else _) = _
      rw [if_neg hk]
section
variable {X : Cx} {Wx : WX} {io : List Nat} {c : Expr} {body : List Stmt} {ft : Rho → Rs Bool} {fb : Rho → Rs Fl} {pos : Pos}
theorem SSt_while (hp : PassesOwn (model X.prog X.w) X.A X.env X.xe) (hc : ST X Wx io c ft) (hb : SSs X Wx io body fb) : SSt X Wx io (.While c body [] pos) (stWhile ft fb) :=
  PS.imp (ps_while hp hc hb) fun D σ H ⟨ρ, g, hio, G, q⟩ => by
    rcases stWhile_cases ft fb ρ with e | ⟨n, _, e⟩
    · rw [e] at q; exact q.elim
    rw [e] at q
    refine ⟨fun m σ' H' => ∃ ρ' g', Ext g H g' H' ∧ Rel X.K g' ρ' σ' H' ∧ PostS ⟨X.K, Wx, io⟩ g' σ' H' D (whileF ft fb m ρ'), ⟨n, ρ, g, .refl g H, G, q⟩, ?_⟩
    rintro m σ' H' ⟨ρ', g', x', G', p'⟩
    cases m with
    | zero => exact p'.elim
    | succ m =>
      rw [whileF] at p'
      refine tT.stmt (c := ⟨X.K, Wx, io⟩) (x'.io.trans hio) (.refl g' H') G' p' fun k ρ2 g2 H2 _ x2 G2 p2 => ?_
      cases k with
      | false => exact p2 _ _ g2 x2 G2
      | true =>
        rw [if_pos rfl] at p2 ⊢
        refine ⟨fun σ' H' => ∃ ρ' g', Ext g H g' H' ∧ Rel X.K g' ρ' σ' H' ∧ PostS ⟨X.K, Wx, io⟩ g' σ' H' D (whileF ft fb m ρ'), fun σ3 H3 h => ⟨m, Nat.lt_succ_self m, h⟩, ρ2, g2, x2.io.trans (x'.io.trans hio), G2, ?_⟩
        have p3 := PostS.later (σ1 := σ') x2 p2
        cases e3 : fb ρ2 with
        | stuck => rw [e3] at p3; exact p3
        | exc cn ns ds ρ4 => rw [e3] at p3; exact p3
        | ok fl ρ4 =>
          rw [e3] at p3
          cases fl with
          | nx => exact fun σ4 H4 g4 x4 G4 => ⟨ρ4, g4, x'.trans (x2.trans x4), G4, PostS.later x4 p3⟩
          | ct => exact fun σ4 H4 g4 x4 G4 => ⟨ρ4, g4, x'.trans (x2.trans x4), G4, PostS.later x4 p3⟩
          | bk => exact p3
          | rt r => exact p3
end
end Spl

namespace Spl
open PySem PySem.Spec L2

/-! comprehensions -/
def isDat : Option W → Bool
  | none => true
  | some (.dat _) => true
  | _ => false
def wipeR (ρ : Rho) : List Nat → Rho
  | [] => ρ
  | v :: vs => (wipeR ρ vs).set v none
def restR (ρ0 ρ : Rho) : List Nat → Rho
  | [] => ρ
  | v :: vs => (restR ρ0 ρ vs).set v (look ρ0 v)
def vsOk (io vs : List Nat) (ρ : Rho) : Bool := vs.all fun v => decide (v ∉ io) && isDat (look ρ v)
theorem vsOk_mem {io vs : List Nat} {ρ : Rho} (h : vsOk io vs ρ = true) {v : Nat} (hv : v ∈ vs) : v ∉ io ∧ isDat (look ρ v) = true := by
  have := List.all_eq_true.mp h v hv
  simpa using this
theorem wipeR_len (ρ : Rho) : ∀ vs, (wipeR ρ vs).length = ρ.length
  | [] => rfl
  | v :: vs => by rw [wipeR, List.length_set, wipeR_len ρ vs]
theorem restR_len (ρ0 ρ : Rho) : ∀ vs, (restR ρ0 ρ vs).length = ρ.length
  | [] => rfl
  | v :: vs => by rw [restR, List.length_set, restR_len ρ0 ρ vs]
theorem look_ge {ρ : Rho} {i : Nat} (h : ρ.length ≤ i) : look ρ i = none := by
  unfold look
  rw [List.getElem?_eq_none h]
  rfl
theorem look_set' {ρ : Rho} {i : Nat} {w : Option W} {j : Nat} : look (ρ.set i w) j = if j = i ∧ i < ρ.length then w else look ρ j := by
  by_cases h : i < ρ.length
  · rw [look_set h]
    by_cases e : j = i
    · rw [if_pos e, if_pos ⟨e, h⟩]
    · rw [if_neg e, if_neg (fun z => e z.1)]
  · rw [if_neg (fun z => h z.2), List.set_eq_of_length_le (by omega)]
theorem look_wipeR {ρ : Rho} {i : Nat} : ∀ {vs : List Nat}, look (wipeR ρ vs) i = if i ∈ vs then none else look ρ i
  | [] => by simp [wipeR]
  | v :: vs => by
    rw [wipeR, look_set', wipeR_len, look_wipeR]
    by_cases e : i = v
    · subst e
      rw [if_pos (List.mem_cons_self (a := i) (l := vs))]
      by_cases h : i < ρ.length
      · rw [if_pos ⟨rfl, h⟩]
      · rw [if_neg (fun z => h z.2)]
        split
        · rfl
        · exact look_ge (by omega)
    · rw [if_neg (fun z => e z.1)]
      by_cases h : i ∈ vs
      · rw [if_pos h, if_pos (List.mem_cons_of_mem _ h)]
      · rw [if_neg h, if_neg (fun z => (List.mem_cons.mp z).elim e h)]
theorem look_restR {ρ0 ρ : Rho} (hl : ρ0.length = ρ.length) {i : Nat} : ∀ {vs : List Nat}, look (restR ρ0 ρ vs) i = if i ∈ vs then look ρ0 i else look ρ i
  | [] => by simp [restR]
  | v :: vs => by
    rw [restR, look_set', restR_len, look_restR hl]
    by_cases e : i = v
    · subst e
      rw [if_pos (List.mem_cons_self (a := i) (l := vs))]
      by_cases h : i < ρ.length
      · rw [if_pos ⟨rfl, h⟩]
      · rw [if_neg (fun z => h z.2)]
        split
        · rfl
        · rw [look_ge (by omega), look_ge (by omega)]
    · rw [if_neg (fun z => e z.1)]
      by_cases h : i ∈ vs
      · rw [if_pos h, if_pos (List.mem_cons_of_mem _ h)]
      · rw [if_neg h, if_neg (fun z => (List.mem_cons.mp z).elim e h)]
theorem wipe_get {σ : St} {i : Nat} : ∀ {vs : List Nat}, (wipe σ vs)[i]? = if i ∈ vs then (if i < σ.length then some none else none) else σ[i]?
  | [] => by simp [wipe]
  | v :: vs => by
    rw [wipe, List.getElem?_set, wipe_length, wipe_get]
    by_cases e : v = i
    · subst e
      rw [if_pos rfl, if_pos (List.mem_cons_self (a := v) (l := vs))]
    · rw [if_neg e]
      by_cases h : i ∈ vs
      · rw [if_pos h, if_pos (List.mem_cons_of_mem _ h)]
      · rw [if_neg h, if_neg (fun z => (List.mem_cons.mp z).elim (fun q => e q.symm) h)]
theorem wipe_same {σ σ2 : St} {vs : List Nat} (h : Same vs (wipe σ vs) σ2) : wipe σ2 vs = wipe σ vs := by
  have hl : σ2.length = σ.length := h.1.trans (wipe_length σ vs)
  apply List.ext_getElem?
  intro i
  rw [wipe_get, wipe_get, hl]
  by_cases hi : i ∈ vs
  · rw [if_pos hi, if_pos hi]
  · rw [if_neg hi, if_neg hi, h.2 i hi, wipe_get, if_neg hi]
theorem Rel.dat_own {K : PySem.W.Frag} {g : Gh} {ρ : Rho} {σ : St} {H : Hp} (G : Rel K g ρ σ H) {i : Nat} (h : isDat (look ρ i) = true) : g.own i = none := by
  cases e : look ρ i with
  | none => exact G.emp i e
  | some w =>
    obtain ⟨v, _, r⟩ := G.at_ i w e
    rw [e] at h
    cases w with
    | dat d => exact r.1
    | _ => cases h
theorem Rel.wiped {K : PySem.W.Frag} {g : Gh} {ρ : Rho} {σ : St} {H : Hp} (G : Rel K g ρ σ H) {io vs : List Nat} (h : vsOk io vs ρ = true) : Rel K g (wipeR ρ vs) (wipe σ vs) H := by
  refine ⟨by rw [wipeR_len, wipe_length]; exact G.len, G.sub, fun i w e => ?_, fun i e => ?_, G.nz, G.inj⟩
  · rw [look_wipeR] at e
    by_cases hi : i ∈ vs
    · rw [if_pos hi] at e; cases e
    · rw [if_neg hi] at e
      obtain ⟨v, hv, r⟩ := G.at_ i w e
      exact ⟨v, by rw [wipe_get, if_neg hi]; exact hv, r⟩
  · rw [look_wipeR] at e
    by_cases hi : i ∈ vs
    · exact G.dat_own (vsOk_mem h hi).2
    · rw [if_neg hi] at e; exact G.emp i e
theorem Rel.restored {K : PySem.W.Frag} {g1 g4 : Gh} {ρ1 ρ4 : Rho} {σ σ2 : St} {H1 H4 : Hp} {io vs : List Nat} (hio : g1.io = io) (x : Ext g1 H1 g4 H4) (G1 : Rel K g1 ρ1 σ H1) (h : vsOk io vs ρ1 = true) (G4 : Rel K g4 ρ4 σ2 H4) (hw : wipe σ2 vs = wipe σ vs) :
    ∃ g5, Ext g1 H1 g5 H4 ∧ Rel K g5 (restR ρ1 ρ4 vs) σ H4 ∧ g5.Z = g4.Z ∧ ∀ i a, g5.own i = some a → g4.own i = some a := by
  have l2 : σ2.length = σ.length := by rw [← wipe_length σ2 vs, hw, wipe_length]
  have hl : ρ1.length = ρ4.length := by rw [G1.len, G4.len, l2]
  refine ⟨⟨g4.Z, fun i => if i ∈ vs then none else g4.own i, g4.io⟩, ⟨x.z, x.fr, x.fr2, x.nw, fun i a e => ?_, x.io, fun i hi => ?_⟩, ⟨by rw [restR_len, G4.len, l2], G4.sub, fun i w e => ?_, fun i e => ?_, fun i a e => ?_, fun i j a e1 e2 => ?_⟩, rfl, fun i a e => ?_⟩
  · have e : (if i ∈ vs then none else g4.own i) = some a := e
    by_cases hi : i ∈ vs
    · rw [if_pos hi] at e; cases e
    · rw [if_neg hi] at e; exact x.ow i a e
  · show (if i ∈ vs then none else g4.own i) = g1.own i
    by_cases hv : i ∈ vs
    · exact absurd (hio ▸ hi) (vsOk_mem h hv).1
    · rw [if_neg hv]; exact x.ioo i hi
  · rw [look_restR hl] at e
    show ∃ v, σ[i]? = some (some v) ∧ RepW K g4.Z H4 w v (if i ∈ vs then none else g4.own i)
    by_cases hi : i ∈ vs
    · rw [if_pos hi] at e ⊢
      obtain ⟨v, hv, r⟩ := G1.at_ i w e
      have hd := (vsOk_mem h hi).2
      rw [e] at hd
      cases w with
      | dat d => exact ⟨v, hv, rfl, r.2.sub (.of x.z)⟩
      | _ => cases hd
    · rw [if_neg hi] at e ⊢
      obtain ⟨v, hv, r⟩ := G4.at_ i w e
      have q : σ2[i]? = σ[i]? := by
        have a : (wipe σ2 vs)[i]? = (wipe σ vs)[i]? := by rw [hw]
        rw [wipe_get, wipe_get, if_neg hi, if_neg hi] at a
        exact a
      exact ⟨v, by rw [← q]; exact hv, r⟩
  · rw [look_restR hl] at e
    show (if i ∈ vs then none else g4.own i) = none
    by_cases hi : i ∈ vs
    · rw [if_pos hi]
    · rw [if_neg hi] at e ⊢; exact G4.emp i e
  · have e : (if i ∈ vs then none else g4.own i) = some a := e
    by_cases hi : i ∈ vs
    · rw [if_pos hi] at e; cases e
    · rw [if_neg hi] at e; exact G4.nz i a e
  · have e1 : (if i ∈ vs then none else g4.own i) = some a := e1
    have e2 : (if j ∈ vs then none else g4.own j) = some a := e2
    split at e1
    · cases e1
    · split at e2
      · cases e2
      · exact G4.inj i j a e1 e2
  · have e : (if i ∈ vs then none else g4.own i) = some a := e
    split at e
    · cases e
    · exact e
/-- no exception leaves -/
def nox {α : Type} : Rs α → Rs α
  | .ok a ρ => .ok a ρ
  | _ => .stuck
def lcL (io vs : List Nat) (ρ0 : Rho) (ft : D → Rho → Rs Unit) (fc : Rho → Rs Bool) (fe : Rho → Rs R) : List D → Rho → List D → Rs (List D)
  | [], ρ, acc => .ok acc ρ
  | d :: ds, ρ, acc => (nox (ft d (wipeR ρ vs))).bind fun _ ρ2 => (nox (fc ρ2)).bind fun b ρ3 => if b = true then (nox (fe ρ3)).bind fun r ρ4 => (freeze io r ρ4).bind fun y ρ5 =>
      if acc.length < sizeLine then lcL io vs ρ0 ft fc fe ds (restR ρ0 ρ5 vs) (acc ++ [y]) else .stuck
    else lcL io vs ρ0 ft fc fe ds (restR ρ0 ρ3 vs) acc
def evLc (io vs : List Nat) (fi : Rho → Rs (List D)) (ft : D → Rho → Rs Unit) (fc : Rho → Rs Bool) (fe : Rho → Rs R) (ρ : Rho) : Rs R := (fi ρ).bind fun xs ρ1 =>
  if vsOk io vs ρ1 = true then (lcL io vs ρ1 ft fc fe xs ρ1 []).bind fun ds ρ2 => .ok (.tmp (.lst ds)) ρ2 else .stuck
abbrev WF : WX := fun _ _ _ _ => False
def PostLc (c : Ct) (g1 : Gh) (σ : St) (H1 : Hp) (L : Addr) (Q : VK) : Rs (List D) → Prop
  | .ok ds ρ2 => ∀ H' g' acc, Ext g1 H1 g' H' → Rel c.K g' ρ2 σ H' → H' L = some (.lst acc) → g'.Z L = none → (∀ i, g'.own i ≠ some L) → RepL c.K g'.Z ds acc → Q (.ref L) H'
  | .exc _ _ _ _ => False
  | .stuck => False
theorem nox_ok {α β : Type} {x : Rs α} {f : α → Rho → Rs β} {P : Rs β → Prop} (hs : ¬ P .stuck) (h : P ((nox x).bind f)) : ∃ a ρ, x = .ok a ρ ∧ P (f a ρ) := by
  cases x with
  | ok a ρ => exact ⟨a, ρ, rfl, h⟩
  | exc c ns ds ρ => exact absurd h hs
  | stuck => exact absurd h hs
/-- a cell that nobody owns stays through an evaluation -/
structure Loose (g : Gh) (H : Hp) (L : Addr) (acc : List V) : Prop where
  at_ : H L = some (.lst acc)
  nz : g.Z L = none
  no : ∀ i, g.own i ≠ some L
theorem Loose.ext {g g' : Gh} {H H' : Hp} {L : Addr} {acc : List V} (h : Loose g H L acc) (x : Ext g H g' H') : Loose g' H' L acc := by
  refine ⟨x.fr _ _ h.at_ h.no, ?_, fun i e => ?_⟩
  · cases q : g'.Z L with
    | none => rfl
    | some o =>
      rcases x.nw L (by rw [q]; simp) with z | z | ⟨i, z⟩
      · exact absurd h.nz z
      · rw [h.at_] at z; cases z
      · exact absurd z (h.no i)
  · rcases x.ow i L e with ⟨j, z⟩ | z
    · exact h.no j z
    · rw [h.at_] at z; cases z
theorem Loose.put {K : PySem.W.Frag} {g : Gh} {ρ : Rho} {σ : St} {H : Hp} {L : Addr} {acc : List V} {o : HO} (h : Loose g H L acc) (G : Rel K g ρ σ H) : Rel K g ρ σ (upd H L o) := by
  refine ⟨G.len, fun b u e => ?_, fun i w e => ?_, G.emp, G.nz, G.inj⟩
  · have hb : b ≠ L := fun z => by rw [z, h.nz] at e; cases e
    rw [upd_ne hb]; exact G.sub b u e
  · obtain ⟨v, hv, r⟩ := G.at_ i w e
    exact ⟨v, hv, r.stay (fun _ _ h => h) fun a u ea q => by
      have hb : a ≠ L := fun z => h.no i (by rw [← z]; exact ea)
      rw [upd_ne hb]; exact q⟩
theorem Ext.put {g g' : Gh} {H H' : Hp} {L : Addr} {o : HO} (x : Ext g H g' H') (h : H L = none) : Ext g H g' (upd H' L o) :=
  ⟨x.z, fun b u e n => by rw [upd_ne (ne_of_none e h)]; exact x.fr b u e n, fun b e => by
    by_cases hb : b = L
    · subst hb; exact absurd h e
    · rw [upd_ne hb]; exact x.fr2 b e, x.nw, x.ow, x.io, x.ioo⟩
/-- the turns of a comprehension -/
theorem lc_turns {c : Ct} {g1 : Gh} {σ : St} {H1 : Hp} {Q : VK} {J : It} {xs : List D} {ρ1 : Rho} {vs : List Nat} {ft : D → Rho → Rs Unit} {fc : Rho → Rs Bool} {fe : Rho → Rs R} (hio : g1.io = c.io) (G1 : Rel c.K g1 ρ1 σ H1) (wk : Walk c.K g1 H1 J xs)
    (ok : vsOk c.io vs ρ1 = true) {L : Addr} (hL : H1 L = none) (p : PostLc c g1 σ H1 L Q (lcL c.io vs ρ1 ft fc fe xs ρ1 [])) :
    ∃ W : Nat → Nat → Hp → Prop, (∃ m, W 0 m (upd H1 L (.lst []))) ∧ ∀ i m H, W i m H →
      (J.stop i H ∧ Q (.ref L) H) ∨ (J.go i H ∧ ∃ Nx : Hp → Prop, (∀ H', Nx H' → ∃ m', m' < m ∧ W (i + 1) m' H') ∧ ∀ x H', J.yld i H x H' → tSg ⟨c.K, WF, c.io⟩ vs ft x (wipe σ vs) H' fun σ2 H2 => wipe σ2 vs = wipe σ vs ∧ tT ⟨c.K, WF, c.io⟩ fc σ2 H2 fun b H3 =>
        if b = true then tS ⟨c.K, WF, c.io⟩ fe σ2 H3 fun y H4 => ∃ acc, H4 L = some (.lst acc) ∧ acc.length < sizeLine ∧ Nx (upd H4 L (.lst (acc ++ [y]))) else Nx H3) := by
  refine ⟨fun i m H => i ≤ xs.length ∧ m = xs.length - i ∧ ∃ ρ' g' acc ds, Ext g1 H1 g' H ∧ Rel c.K g' ρ' σ H ∧ (∀ v ∈ vs, look ρ' v = look ρ1 v) ∧ Loose g' H L acc ∧ RepL c.K g'.Z ds acc ∧ PostLc c g1 σ H1 L Q (lcL c.io vs ρ1 ft fc fe (xs.drop i) ρ' ds), ⟨xs.length, Nat.zero_le _, by simp, ρ1, g1, [], [], (Ext.refl g1 H1).put hL, ?_, fun _ _ => rfl, ?_, .nil, p⟩, ?_⟩
  · refine ⟨G1.len, fun b u e => ?_, fun i w e => ?_, G1.emp, G1.nz, G1.inj⟩
    · rcases G1.sub b u e with q | ⟨lk, ob, q⟩
      · rw [upd_ne (ne_of_none q hL)]; exact .inl q
      · rw [upd_ne (ne_of_none q hL)]; exact .inr ⟨lk, ob, q⟩
    · obtain ⟨v, hv, r⟩ := G1.at_ i w e
      exact ⟨v, hv, r.stay (fun _ _ h => h) fun a u ea q => by rw [upd_ne (ne_of_none q hL)]; exact q⟩
  · refine ⟨upd_same, ?_, fun i e => ?_⟩
    · cases q : g1.Z L with
      | none => rfl
      | some o => rcases G1.sub L o q with z | ⟨_, _, z⟩ <;> rw [hL] at z <;> cases z
    · obtain ⟨o, z⟩ := G1.alive e
      rw [hL] at z; cases z
  rintro i m H ⟨hi, rfl, ρ', g', acc, ds, x', G', hv, lo, ra, p'⟩
  by_cases e : i = xs.length
  · subst e
    rw [List.drop_length] at p'
    exact .inl ⟨wk.stop g' H x' G'.sub, p' H g' acc x' G' lo.at_ lo.nz lo.no ra⟩
  · have hlt : i < xs.length := by omega
    refine .inr ⟨wk.go i g' H x' G'.sub hlt, fun H' => i + 1 ≤ xs.length ∧ ∃ ρ' g' acc ds, Ext g1 H1 g' H' ∧ Rel c.K g' ρ' σ H' ∧ (∀ v ∈ vs, look ρ' v = look ρ1 v) ∧ Loose g' H' L acc ∧ RepL c.K g'.Z ds acc ∧ PostLc c g1 σ H1 L Q (lcL c.io vs ρ1 ft fc fe (xs.drop (i + 1)) ρ' ds), fun H2 h => ⟨xs.length - (i + 1), by omega, h.1, rfl, h.2⟩, fun x H'' y => ?_⟩
    have hd : xs[i]? = some xs[i] := by simp [hlt]
    obtain ⟨Z', nw, rd⟩ := wk.yld i g' H x H'' _ x' G'.sub hd y
    obtain ⟨ex, G2⟩ := nw.ext G'
    rw [List.drop_eq_getElem_cons hlt] at p'
    have ok' : vsOk c.io vs ρ' = true := by
      unfold vsOk
      rw [List.all_eq_true]
      intro v hvm
      obtain ⟨a1, a2⟩ := vsOk_mem ok hvm
      rw [hv v hvm]
      simp [a1, a2]
    have Gw := G2.wiped ok'
    have p' : PostLc c g1 σ H1 L Q ((nox (ft xs[i] (wipeR ρ' vs))).bind fun _ ρ2 => (nox (fc ρ2)).bind fun b ρ3 => if b = true then (nox (fe ρ3)).bind fun r ρ4 => (freeze c.io r ρ4).bind fun y ρ5 =>
        if ds.length < sizeLine then lcL c.io vs ρ1 ft fc fe (xs.drop (i + 1)) (restR ρ1 ρ5 vs) (ds ++ [y]) else .stuck
      else lcL c.io vs ρ1 ft fc fe (xs.drop (i + 1)) (restR ρ1 ρ3 vs) ds) := p'
    obtain ⟨⟨⟩, ρ2, e2, p2⟩ := nox_ok (P := PostLc c g1 σ H1 L Q) (fun z => z) p'
    obtain ⟨b, ρ3, e3, p3⟩ := nox_ok (P := PostLc c g1 σ H1 L Q) (fun z => z) p2
    have io2 : (⟨Z', g'.own, g'.io⟩ : Gh).io = c.io := x'.io.trans hio
    refine ⟨xs[i], wipeR ρ' vs, _, io2, Gw, rd, ?_⟩
    rw [e2]
    intro σ2 H2 g2 s2 x2 G3
    have hw := wipe_same s2
    refine ⟨hw, ρ2, g2, x2.io.trans io2, G3, ?_⟩
    rw [e3]
    intro b' H3 g3 x3 G4 eb
    have eb : b = b' := eb
    subst eb
    have lo3 : Loose g3 H3 L acc := ((lo.ext ex).ext x2).ext x3
    have x03 : Ext g1 H1 g3 H3 := x'.trans (ex.trans (x2.trans x3))
    have ra3 : RepL c.K g3.Z ds acc := ra.sub (.of (ex.trans (x2.trans x3)).z)
    cases b with
    | false =>
      rw [if_neg Bool.false_ne_true] at p3 ⊢
      obtain ⟨g5, x5, G5, z5, o5⟩ := Rel.restored hio x03 G1 ok G4 hw
      have hl : ρ1.length = ρ3.length := by rw [G1.len, G4.len, ← wipe_length σ2 vs, hw, wipe_length]
      exact ⟨hlt, _, g5, acc, ds, x5, G5, fun v hvm => by rw [look_restR hl, if_pos hvm], ⟨lo3.at_, by rw [z5]; exact lo3.nz, fun i q => lo3.no i (o5 i L q)⟩, by rw [z5]; exact ra3, p3⟩
    | true =>
      rw [if_pos rfl] at p3 ⊢
      obtain ⟨r, ρ4, e4, p4⟩ := nox_ok (P := PostLc c g1 σ H1 L Q) (fun z => z) p3
      refine ⟨ρ3, g3, x3.io.trans (x2.io.trans io2), G4, ?_⟩
      rw [e4]
      intro y H4 g4 x4 G5 rr
      have io4 : g4.io = c.io := x4.io.trans (x3.io.trans (x2.io.trans io2))
      have lo4 := lo3.ext x4
      rcases freeze_ok x4 G5 rr with ez | ⟨d, ρ5, g5, ez, x5, G6, rd5⟩
      · have hg3 : g3.io = c.io := x3.io.trans (x2.io.trans io2)
        rw [hg3] at ez
        rw [ez] at p4; exact p4.elim
      · have hg3 : g3.io = c.io := x3.io.trans (x2.io.trans io2)
        rw [hg3] at ez
        rw [ez] at p4
        have p4 : PostLc c g1 σ H1 L Q (if ds.length < sizeLine then lcL c.io vs ρ1 ft fc fe (xs.drop (i + 1)) (restR ρ1 ρ5 vs) (ds ++ [d]) else .stuck) := p4
        have lo5 := lo3.ext x5
        by_cases hz : ds.length < sizeLine
        · rw [if_pos hz] at p4
          refine ⟨acc, lo5.at_, by rw [← ra.length]; exact hz, hlt, ?_⟩
          obtain ⟨g6, x6, G7, z6, o6⟩ := Rel.restored hio (x03.trans x5) G1 ok G6 hw
          have hl : ρ1.length = ρ5.length := by rw [G1.len, G6.len, ← wipe_length σ2 vs, hw, wipe_length]
          have lo6 : Loose g6 H4 L acc := ⟨lo5.at_, by rw [z6]; exact lo5.nz, fun i q => lo5.no i (o6 i L q)⟩
          refine ⟨_, g6, acc ++ [y], ds ++ [d], x6.put hL, lo6.put G7, fun v hvm => by rw [look_restR hl, if_pos hvm], ⟨upd_same, lo6.nz, lo6.no⟩, ?_, p4⟩
          refine RepL.append ?_ (.cons (by rw [z6]; exact rd5) .nil)
          rw [z6]
          exact ra3.sub (.of x5.z)
        · rw [if_neg hz] at p4; exact p4.elim

theorem tI.bindE {γ δ : Type} {c : Ct} {g g1 : Gh} {ρ : Rho} {σ : St} {H H1 : Hp} {f : Rho → Rs (List D)} {k : List D → Rho → Rs γ} {rep' : Gh → Hp → γ → δ → Prop} {Q : δ → Hp → Prop} {T : It → Hp → Prop} (hio : g.io = c.io) (x1 : Ext g H g1 H1) (G : Rel c.K g1 ρ σ H1)
    (h : Post c g σ H rep' Q ((f ρ).bind k)) (n : ∀ xs ρ2 g2 J H2, Ext g1 H1 g2 H2 → Ext g H g2 H2 → Rel c.K g2 ρ2 σ H2 → Walk c.K g2 H2 J xs → Post c g σ H rep' Q (k xs ρ2) → T J H2) : tI c f σ H1 T := by
  refine ⟨ρ, g1, x1.io.trans hio, G, ?_⟩
  cases e : f ρ with
  | stuck => rw [e] at h; exact h
  | exc cn ns ds ρ' => rw [e] at h; exact fun dx vs H' g' x' G' e1 e2 e3 => h dx vs H' g' (x1.trans x') G' e1 e2 e3
  | ok r ρ2 =>
    rw [e] at h
    exact fun v H2 g2 x2 G2 r2 => n r ρ2 g2 v H2 x2 (x1.trans x2) G2 r2 h
theorem freeze_nox {io : List Nat} {r : R} {ρ : Rho} {cn : Str} {ns : List Str} {ds : List D} {ρ' : Rho} : freeze io r ρ ≠ .exc cn ns ds ρ' := by
  intro q
  cases r with
  | val d => cases q
  | tmp w => cases q
  | place i =>
    have q : frzW io i ρ (look ρ i) = .exc cn ns ds ρ' := q
    unfold frzW at q
    split at q
    · cases q
    · split at q
      · cases q
      · cases q
    · split at q
      · cases q
      · cases q
    · split at q
      · cases q
      · cases q
    · cases q
def STs (X : Cx) (Wx : WX) (io : List Nat) (es : List Expr) (f : Rho → Rs Bool) : Prop := PTs X es (tT ⟨X.K, Wx, io⟩ f)
theorem PTs.imp {X : Cx} {es : List Expr} {t t' : TT} (h : PTs X es t) (i : ∀ σ H Q, t' σ H Q → t σ H Q) : PTs X es t' := ⟨fun pins s σ H Q I q => h.run pins s σ H Q I (i σ H Q q)⟩
section
variable {X : Cx} {Wx : WX} {io : List Nat} {elt tg iter e : Expr} {ifs : List Expr} {scope : Scope} {own : List (Str × Nat)} {pos spos py : Pos} {fi : Rho → Rs (List D)} {ft : D → Rho → Rs Unit} {fc : Rho → Rs Bool} {fe : Rho → Rs R}
theorem STs_nil : STs X Wx io [] (.ok true) := PTs.imp pts_nil fun σ H Q ⟨ρ, g, hio, G, q⟩ => q true H g (.refl g H) G rfl
theorem STs_one (h : ST X Wx io e fc) : STs X Wx io [e] fc := pts_one h
theorem lc_post {σ : St} {H : Hp} {g g1 : Gh} {ρ1 : Rho} {H1 : Hp} {xs : List D} {Q : VK} {vs : List Nat} {c : Ct} (x1 : Ext g H g1 H1) (L : Addr) (hL : H1 L = none) {E : Rs R → Prop} (hE : ¬ E .stuck) (hX : ∀ c ns ds ρ, ¬ E (.exc c ns ds ρ) ∨ True)
    (k : ∀ ds ρ2 H' g' acc, E (.ok (.tmp (.lst ds)) ρ2) → Ext g1 H1 g' H' → Rel c.K g' ρ2 σ H' → H' L = some (.lst acc) → g'.Z L = none → (∀ i, g'.own i ≠ some L) → RepL c.K g'.Z ds acc → Q (.ref L) H') :
    E ((lcL c.io vs ρ1 ft fc fe xs ρ1 []).bind fun ds ρ2 => .ok (.tmp (.lst ds)) ρ2) → PostLc c g1 σ H1 L Q (lcL c.io vs ρ1 ft fc fe xs ρ1 []) := by
  have noexc : ∀ (ys : List D) (ρ : Rho) (acc : List D) cn ns ds ρ', lcL c.io vs ρ1 ft fc fe ys ρ acc ≠ .exc cn ns ds ρ' := by
    intro ys
    induction ys with
    | nil => intro ρ acc cn ns ds ρ' h; cases h
    | cons d ys ih =>
      intro ρ acc cn ns ds ρ' h
      rw [lcL] at h
      cases e1 : ft d (wipeR ρ vs) with
      | stuck => rw [e1] at h; cases h
      | exc => rw [e1] at h; cases h
      | ok u ρ2 =>
        rw [e1] at h
        have h : ((nox (fc ρ2)).bind fun b ρ3 => if b = true then (nox (fe ρ3)).bind fun r ρ4 => (freeze c.io r ρ4).bind fun y ρ5 =>
          if acc.length < sizeLine then lcL c.io vs ρ1 ft fc fe ys (restR ρ1 ρ5 vs) (acc ++ [y]) else .stuck
          else lcL c.io vs ρ1 ft fc fe ys (restR ρ1 ρ3 vs) acc) = .exc cn ns ds ρ' := h
        cases e2 : fc ρ2 with
        | stuck => rw [e2] at h; cases h
        | exc => rw [e2] at h; cases h
        | ok b ρ3 =>
          rw [e2] at h
          have h : (if b = true then (nox (fe ρ3)).bind fun r ρ4 => (freeze c.io r ρ4).bind fun y ρ5 =>
            if acc.length < sizeLine then lcL c.io vs ρ1 ft fc fe ys (restR ρ1 ρ5 vs) (acc ++ [y]) else .stuck
            else lcL c.io vs ρ1 ft fc fe ys (restR ρ1 ρ3 vs) acc) = .exc cn ns ds ρ' := h
          by_cases hb : b = true
          · rw [if_pos hb] at h
            cases e3 : fe ρ3 with
            | stuck => rw [e3] at h; cases h
            | exc => rw [e3] at h; cases h
            | ok r ρ4 =>
              rw [e3] at h
              have h : ((freeze c.io r ρ4).bind fun y ρ5 => if acc.length < sizeLine then lcL c.io vs ρ1 ft fc fe ys (restR ρ1 ρ5 vs) (acc ++ [y]) else .stuck) = .exc cn ns ds ρ' := h
              cases e4 : freeze c.io r ρ4 with
              | stuck => rw [e4] at h; cases h
              | exc => exact freeze_nox e4
              | ok y ρ5 =>
                rw [e4] at h
                have h : (if acc.length < sizeLine then lcL c.io vs ρ1 ft fc fe ys (restR ρ1 ρ5 vs) (acc ++ [y]) else .stuck) = .exc cn ns ds ρ' := h
                by_cases hz : acc.length < sizeLine
                · rw [if_pos hz] at h; exact ih _ _ _ _ _ _ h
                · rw [if_neg hz] at h; cases h
          · rw [if_neg hb] at h
            exact ih _ _ _ _ _ _ h
  intro he
  cases e : lcL c.io vs ρ1 ft fc fe xs ρ1 [] with
  | stuck => rw [e] at he; exact absurd he hE
  | exc cn ns ds ρ2 => exact absurd e (noexc _ _ _ _ _ _ _)
  | ok ds ρ2 =>
    rw [e] at he
    exact fun H' g' acc x' G' h1 h2 h3 h4 => k ds ρ2 H' g' acc he x' G' h1 h2 h3 h4
theorem SE_lc (hc : X.calm = true) (hN : X.N.Nodup) (hi : SI X Wx io tg iter fi) (ok : BlkOk X.N X.env.scope scope own)
    (hg : ∀ (s : Shared) (H : Hp) (C : Addr) (cl : List (Str × Addr)) (fp : List Addr), SG (X.blk s H scope (compEnvC scope cl C X.env) fp) WF io (own.map (·.2)) tg ft) (ht : ∀ (s : Shared) (H : Hp) (C : Addr) (cl : List (Str × Addr)) (fp : List Addr), STs (X.blk s H scope (compEnvC scope cl C X.env) fp) WF io ifs fc)
    (he : ∀ (s : Shared) (H : Hp) (C : Addr) (cl : List (Str × Addr)) (fp : List Addr), SE (X.blk s H scope (compEnvC scope cl C X.env) fp) WF io elt fe) (hs : ∀ x, foldedSetIterable iter X.env x = pure x) :
    SE X Wx io (.ListComp elt [⟨tg, iter, ifs, 0⟩] scope pos) (evLc io (own.map (·.2)) fi ft fc fe) :=
  PE.imp (pe_lc (g := tSg ⟨X.K, WF, io⟩ (own.map fun p : Str × Nat => p.2) ft) (own := own) (tt := tT ⟨X.K, WF, io⟩ fc) (te := tS ⟨X.K, WF, io⟩ fe) hc hN hi ok hg ht he hs) fun σ H Q ⟨ρ, g, hio, G, q⟩ => by
    refine tI.bindE (c := ⟨X.K, Wx, io⟩) hio (.refl g H) G q fun xs ρ1 g1 J H1 _ x1 G1 wk p1 L hL => ?_
    by_cases ov : vsOk io (own.map (·.2)) ρ1 = true
    · rw [if_pos ov] at p1
      refine lc_turns (c := ⟨X.K, Wx, io⟩) (x1.io.trans hio) G1 wk ov hL (lc_post (c := ⟨X.K, Wx, io⟩) x1 L hL (E := Post ⟨X.K, Wx, io⟩ g σ H (repR ⟨X.K, Wx, io⟩ σ H) Q) (fun z => z) (fun _ _ _ _ => .inr trivial) ?_ p1)
      intro ds ρ2 H' g' acc p x' G' h1 h2 h3 h4
      exact p (.ref L) H' g' (x1.trans x') G' ⟨L, ⟨L, acc, rfl, rfl, h1, h4⟩, h2, h3, Classical.byContradiction fun n => x1.fr2 L n hL⟩
    · rw [if_neg ov] at p1; exact p1.elim
/-- name = [..] on one line -/
theorem SSt_setLc {i : Nat} {y : Str} (hc : X.calm = true) (hN : X.N.Nodup) (hy : X.N[i]? = some y) (hyl : X.env.scope.names.lookup y = some .local) (hsw : swapsWith (.ListComp elt [⟨tg, iter, ifs, 0⟩] scope pos) (some (.Name y py)) spos.line X.env = pure true)
    (hi : SI X Wx io tg iter fi) (ok : BlkOk X.N X.env.scope scope own)
    (hg : ∀ (s : Shared) (H : Hp) (C : Addr) (cl : List (Str × Addr)) (fp : List Addr), SG (X.blk s H scope (compEnvC scope cl C X.env) fp) WF io (own.map (·.2)) tg ft) (ht : ∀ (s : Shared) (H : Hp) (C : Addr) (cl : List (Str × Addr)) (fp : List Addr), STs (X.blk s H scope (compEnvC scope cl C X.env) fp) WF io ifs fc)
    (he : ∀ (s : Shared) (H : Hp) (C : Addr) (cl : List (Str × Addr)) (fp : List Addr), SE (X.blk s H scope (compEnvC scope cl C X.env) fp) WF io elt fe) (hs : ∀ x, foldedSetIterable iter X.env x = pure x) :
    SSt X Wx io (.Assign [.Name y py] (.ListComp elt [⟨tg, iter, ifs, 0⟩] scope pos) spos) (stSet io i (evLc io (own.map (·.2)) fi ft fc fe)) :=
  PS.imp (ps_setLc (g := tSg ⟨X.K, WF, io⟩ (own.map fun p : Str × Nat => p.2) ft) (own := own) (tt := tT ⟨X.K, WF, io⟩ fc) (te := tS ⟨X.K, WF, io⟩ fe) hc hN hy hyl hsw hi ok hg ht he hs) fun E σ H ⟨ρ, g, hio, G, q⟩ => by
    unfold stSet evLc at q
    have q : PostS ⟨X.K, Wx, io⟩ g σ H E ((fi ρ).bind fun xs ρ1 => (if vsOk io (own.map (·.2)) ρ1 = true then (lcL io (own.map (·.2)) ρ1 ft fc fe xs ρ1 []).bind fun ds ρ2 => Rs.ok (R.tmp (.lst ds)) ρ2 else .stuck).bind fun r ρ1 => un (store io i r ρ1)) := by
      cases e : fi ρ with
      | stuck => rw [e] at q; exact q
      | exc => rw [e] at q; exact q
      | ok xs ρ1 => rw [e] at q; exact q
    refine tI.stmt (c := ⟨X.K, Wx, io⟩) hio (.refl g H) G q fun xs ρ1 g1 J H1 _ x1 G1 wk p1 L hL => ?_
    by_cases ov : vsOk io (own.map (·.2)) ρ1 = true
    · rw [if_pos ov] at p1
      refine lc_turns (Q := fun x H1 => gName i x σ H1 E.nx) (c := ⟨X.K, Wx, io⟩) (x1.io.trans hio) G1 wk ov hL (lc_post (c := ⟨X.K, Wx, io⟩) x1 L hL (E := fun x => PostS ⟨X.K, Wx, io⟩ g σ H E (x.bind fun r ρ1 => un (store io i r ρ1))) (fun z => z) (fun _ _ _ _ => .inr trivial) ?_ p1)
      intro ds ρ2 H' g' acc p x' G' h1 h2 h3 h4
      exact PostS.stored (c := ⟨X.K, Wx, io⟩) hio (x1.trans x') G' (r := .tmp (.lst ds)) (v := .ref L) ⟨L, ⟨L, acc, rfl, rfl, h1, h4⟩, h2, h3, Classical.byContradiction fun n => x1.fr2 L n hL⟩ p
    · rw [if_neg ov] at p1; exact p1.elim
end
end Spl

namespace Spl
open PySem PySem.Spec L2
open PyProof.Rows (envOfC)

/-! a def as a function of data -/
def iosOf (np : Nat) (ρ : Rho) : List W := (List.range np).map fun i => (look ρ i).getD (.dat .non)
def outW (io : List Nat) (ρ : Rho) : R → Option W
  | .val d => some (.dat d)
  | .tmp w => some w
  | .place i => if i ∈ io ∧ isDat (look ρ i) = false then none else look ρ i
def inOk (io : List Nat) (ws : List W) : Bool := (List.range ws.length).all fun i => decide (i ∈ io) || isDat ws[i]?
def fnOf (io : List Nat) (np nn : Nat) (fb : Rho → Rs Fl) : Fn := fun ws => if ws.length = np ∧ inOk io ws = true then match fb (ws.map some ++ List.replicate (nn - np) none) with
  | .ok .nx ρ => .ret (.dat .non) (iosOf np ρ)
  | .ok (.rt r) ρ => match outW io ρ r with
    | some w => .ret w (iosOf np ρ)
    | none => .stuck
  | .exc c ns ds ρ => .exc c ns ds (iosOf np ρ)
  | _ => .stuck
  else .stuck
theorem iosOf_get {np : Nat} {ρ : Rho} {i : Nat} {w : W} (h : i < np) (e : look ρ i = some w) : (iosOf np ρ)[i]? = some w := by
  unfold iosOf
  rw [List.getElem?_map, List.getElem?_range h]
  simp [e]
theorem look_app {ws : List W} {n i : Nat} : look (ws.map some ++ List.replicate n none) i = ws[i]? := by
  unfold look
  by_cases h : i < ws.length
  · rw [List.getElem?_append_left (by simpa using h), List.getElem?_map]
    cases e : ws[i]? <;> simp [e]
  · rw [List.getElem?_append_right (by simpa using h)]
    have e : ws[i]? = none := List.getElem?_eq_none (by omega)
    rw [e]
    rcases Nat.lt_or_ge (i - (ws.map some).length) n with q | q
    · rw [List.getElem?_replicate_of_lt q]; rfl
    · rw [List.getElem?_eq_none (by simpa using q)]; rfl
theorem fn_start {K : PySem.W.Frag} {g : Gh} {ws : List W} {vs : List V} {H : Hp} {io : List Nat} {N : List Str} (a0 : Args0 K g ws vs H) (hN : vs.length ≤ N.length) : Rel K ⟨g.Z, g.own, io⟩ (ws.map some ++ List.replicate (N.length - vs.length) none) (L2.start N vs) H := by
  have hl := a0.length
  have lk : ∀ i, look (ws.map some) i = ws[i]? := fun i => by
    have := look_app (ws := ws) (n := 0) (i := i)
    simpa using this
  refine ⟨by unfold L2.start; simp [hl], a0.sub, fun i w e => ?_, fun i e => ?_, a0.nz, a0.inj⟩
  · rw [look_app] at e
    obtain ⟨v, hv, r⟩ := a0.at_ i w (by rw [lk]; exact e)
    refine ⟨v, ?_, r⟩
    unfold L2.start
    rw [List.getElem?_append_left (List.getElem?_eq_some_iff.mp hv).1]
    exact hv
  · rw [look_app] at e
    exact a0.emp i (by rw [lk]; exact e)
theorem start_get {N : List Str} {vs : List V} {i : Nat} (h : i < vs.length) : (L2.start N vs)[i]? = vs[i]?.map some := by
  unfold L2.start
  rw [List.getElem?_append_left (by simpa using h), List.getElem?_map]
/-- what a body leaves stands as asked -/
theorem fn_back {K : PySem.W.Frag} {g : Gh} {ws : List W} {vs : List V} {H : Hp} {io : List Nat} {N : List Str} {ρ' : Rho} {σ' : St} {H' : Hp} {g' : Gh} {np : Nat} (a0 : Args0 K g ws vs H) (hN : vs.length ≤ N.length) (hnp : ws.length = np) (ok : inOk io ws = true)
    (x : Ext ⟨g.Z, g.own, io⟩ H g' H') (G' : Rel K g' ρ' σ' H') : Back K g ws vs H (iosOf np ρ') g'.Z H' ∧ ∀ i a, g.own i = some a → i ∈ io ∧ g'.own i = some a := by
  have hl := a0.length
  have lk : ∀ i, look (ws.map some) i = ws[i]? := fun i => by
    have := look_app (ws := ws) (n := 0) (i := i)
    simpa using this
  have own_io : ∀ i a, g.own i = some a → i ∈ io ∧ i < ws.length := by
    intro i a h
    cases e : ws[i]? with
    | none => rw [a0.emp i (by rw [lk]; exact e)] at h; cases h
    | some w =>
      have hi := (List.getElem?_eq_some_iff.mp e).1
      refine ⟨?_, hi⟩
      unfold inOk at ok
      have := List.all_eq_true.mp ok i (List.mem_range.mpr hi)
      simp only [Bool.or_eq_true, decide_eq_true_eq] at this
      rcases this with q | q
      · exact q
      · exfalso
        obtain ⟨v, _, r⟩ := a0.at_ i w (by rw [lk]; exact e)
        rw [e] at q
        cases w with
        | dat d => rw [r.1] at h; cases h
        | _ => cases q
  have keep : ∀ i a, g.own i = some a → i ∈ io ∧ g'.own i = some a := fun i a h => by
    have q := (own_io i a h).1
    exact ⟨q, (x.ioo i q).trans h⟩
  refine ⟨⟨⟨x.z, x.fr, x.fr2, x.nw, fun i a h => .inl ⟨i, h⟩, rfl, fun _ _ => rfl⟩, G'.sub, fun i a h => G'.nz i a (keep i a h).2, fun i a h => ?_⟩, keep⟩
  obtain ⟨_, ho⟩ := keep i a h
  have hi := (own_io i a h).2
  cases e : look ρ' i with
  | none => rw [G'.emp i e] at ho; cases ho
  | some w =>
    obtain ⟨v, hv, r⟩ := G'.at_ i w e
    rw [ho] at r
    obtain ⟨u, hu, ru⟩ := a0.at_ i ws[i] (by rw [lk]; simp [hi])
    rw [h] at ru
    rw [List.getElem?_map] at hu
    obtain ⟨u', hu', e2⟩ := Option.map_eq_some_iff.mp hu
    cases e2
    exact ⟨w, v, iosOf_get (by omega) e, by rw [hu', ru.own_some.1, r.own_some.1], r⟩
abbrev WE (E : XK) : WX := fun c d _ H' => E c d H'
/-- a def by its body's simulation -/
theorem FnG.ev {P : Program} {w : World} {K : PySem.W.Frag} {mg : Str → Option Value} {base : Heap} {k : Nat} {f : Addr} {fd : FuncData} {x qual : Str} {params : Arguments} {body : List Stmt} {scope : Scope} {dvs : List V} {kws : List (Str × V)} {N ps : List Str} {io : List Nat} {np nn : Nat} {fb : Rho → Rs Fl}
    (F : FunD K x qual params body scope dvs kws f fd) (S : FnScope N ps scope) (hp : ps.length = np) (hn : N.length = nn)
    (hb : ∀ (cd : Value) (A : Around) (outer : List Env) (s : Shared) (H : Hp) (E : XK), Room k (A.deeper (envOfC qual scope s.heap.objs.size f cd)) → A.guards = some [] →
      SSs (bodyCx P w K mg base N qual scope f cd A outer s H E) (WE E) io body fb) : FnG P w K mg base (k + 1) f fd ps (spF K (fnOf io np nn fb)) := by
  have hpl : ps.length ≤ N.length := by have := congrArg List.length S.pre; rw [List.length_take] at this; omega
  have len : ∀ vs H Q E, spF K (fnOf io np nn fb) vs H Q E → vs.length = ps.length := by
    rintro vs H Q E ⟨g, ws, l, a0, h⟩
    unfold fnOf at h
    by_cases c : ws.length = np ∧ inOk io ws = true
    · rw [← l, c.1, hp]
    · rw [if_neg c] at h; exact h.elim
  refine FnG.by F S len fun cd A outer s H vs Q E hr hg hq => ⟨_, hb cd A outer s H E hr hg, ?_⟩
  have hvl := len _ _ _ _ hq
  obtain ⟨g, ws, l, a0, h⟩ := hq
  unfold fnOf at h
  by_cases c : ws.length = np ∧ inOk io ws = true
  · rw [if_pos c] at h
    have hN : vs.length ≤ N.length := by omega
    have hc : nn - np = N.length - vs.length := by omega
    rw [hc] at h
    refine ⟨_, ⟨g.Z, g.own, io⟩, rfl, fn_start a0 hN, ?_⟩
    cases e : fb (ws.map some ++ List.replicate (N.length - vs.length) none) with
    | stuck => rw [e] at h; exact h.elim
    | exc cn ns ds ρ' =>
      rw [e] at h
      intro dx us σ' H' g' x' G' e1 e2 e3
      obtain ⟨b, _⟩ := fn_back a0 hN c.1 c.2 x' G'
      exact h dx us H' g'.Z b e1 e2 e3
    | ok fl ρ' =>
      rw [e] at h
      cases fl with
      | bk => exact h.elim
      | ct => exact h.elim
      | nx =>
        intro σ' H' g' x' G'
        obtain ⟨b, _⟩ := fn_back a0 hN c.1 c.2 x' G'
        exact h .non H' g'.Z none b ⟨rfl, repN⟩ (fun _ q => nomatch q)
      | rt r =>
        intro v σ' H' g' x' G' rr
        obtain ⟨b, keep⟩ := fn_back a0 hN c.1 c.2 x' G'
        dsimp only at h
        cases eo : outW io ρ' r with
        | none => rw [eo] at h; exact h.elim
        | some w =>
          rw [eo] at h
          have h : ∀ v H' Z' o, Back K g ws vs H (iosOf np ρ') Z' H' → RepW K Z' H' w v o → (∀ a, o = some a → Z' a = none ∧ (∀ i, g.own i ≠ some a) ∧ H a = none) → Q v H' := h
          cases r with
          | val d => cases eo; exact h v H' g'.Z none b ⟨rfl, rr⟩ (fun _ q => nomatch q)
          | tmp u =>
            cases eo
            obtain ⟨a, r, h1, h2, h3⟩ := rr
            exact h v H' g'.Z (some a) b r (fun a' q => by cases q; exact ⟨h1, fun i q => h2 i (keep i a q).2, h3⟩)
          | place i =>
            have eo : (if i ∈ io ∧ isDat (look ρ' i) = false then none else look ρ' i) = some w := eo
            by_cases ci : i ∈ io ∧ isDat (look ρ' i) = false
            · rw [if_pos ci] at eo; cases eo
            · rw [if_neg ci] at eo
              obtain ⟨u, hu, r⟩ := G'.at_ i w eo
              have rr : σ'[i]? = some (some v) := rr
              rw [rr] at hu
              cases hu
              refine h v H' g'.Z (g'.own i) b r fun a ea => ?_
              have nio : i ∉ io := fun hi => by
                apply ci
                refine ⟨hi, ?_⟩
                rw [eo]
                cases w with
                | dat d => rw [r.1] at ea; cases ea
                | _ => rfl
              have fresh : ∀ j, g.own j ≠ some a := fun j q => by
                obtain ⟨q1, q2⟩ := keep j a q
                have := G'.inj i j a ea q2
                subst this
                exact nio q1
              refine ⟨G'.nz i a ea, fresh, ?_⟩
              rcases x'.ow i a ea with ⟨j, q⟩ | q
              · exact absurd q (fresh j)
              · exact q
  · rw [if_neg c] at h; exact h.elim
end Spl

namespace Spl
open PySem PySem.Spec L2

/-! tests by value, names of the top -/
section
variable {X : Cx} {Wx : WX} {io : List Nat} {e a b : Expr} {f h : Rho → Rs R} {pos pos' : Pos} {x : Str}
theorem ST_val (he : SE X Wx io e f) (hw : ∀ whole, isTrue e X.env whole = (do let v ← whole; standAt e.pos; holding [v] (truthy v))) : ST X Wx io e (asT f) := PT.imp (pt_val he hw) fun _ _ _ q => tT_val q
theorem SE_gint {i : Int} (hg : Gl X x) (hm : ∃ t, X.mg x = some (.int i t)) (hd : (x == ("__debug__" : Str)) = false) : SE X Wx io (.Name x pos) (evC (.int i)) := by
  obtain ⟨t, hm⟩ := hm
  exact SE_const (pe_glob hg hm (v := .int i) ⟨_, rfl⟩ hd) fun _ => repI
theorem SE_never : SE X Wx io e (fun _ => .stuck) := ⟨fun pins s σ H Q I ⟨ρ, g, hio, G, q⟩ => q.elim⟩
theorem SSt_never {st : Stmt} : SSt X Wx io st (fun _ => .stuck) := PS.imp ps_never fun D σ H ⟨ρ, g, hio, G, q⟩ => q.elim
theorem SSs_never {st : List Stmt} : SSs X Wx io st (fun _ => .stuck) := PSs.imp pss_never fun D σ H ⟨ρ, g, hio, G, q⟩ => q.elim
theorem UnR.neg : UnR X (unaryOp .USub) (rO1 X.K fun | .int i => some (.val (.int (-i))) | _ => none) := by
  intro pins s σ H x v Q I rx ⟨Z, d, r, s1, u, e, q⟩
  cases d with
  | int i => cases e; exact un_neg pins s σ H x v Q I rx ⟨i, u, q_val s1 q repI⟩
  | _ => cases e
end
def negD : D → Option R
  | .int i => some (.val (.int (-i)))
  | _ => none
theorem un_negD {X : Cx} : UnR X (unaryOp .USub) (rO1 X.K negD) := by
  intro pins s σ H x v Q I rx ⟨Z, d, r, s1, u, e, q⟩
  cases d with
  | int i => cases e; exact un_neg pins s σ H x v Q I rx ⟨i, u, q_val s1 q repI⟩
  | _ => cases e

/-! isinstance of built-in classes -/
def tyName : D → Option String
  | .non => some "NoneType"
  | .bl _ => some "bool"
  | .int _ => some "int"
  | .str _ => some "str"
  | .tup _ => some "tuple"
  | .lst _ => some "list"
  | .scr _ => some "list"
  | _ => none
def isiD (T : String) (d : D) : Option R := (tyName d).bind fun n => (kitB n T).map fun b => .val (.bl b)
theorem RepU.ty {K : PySem.W.Frag} {Z H : Hp} (s : Sub Z H) {d : D} {v : V} {n : String} (h : RepU K Z H d v) (e : tyName d = some n) : TyX K H v (.type n) := by
  cases d with
  | non => cases e; cases h; exact .base .non
  | bl b => cases e; cases h; exact .base (.bl b)
  | int b => cases e; cases h; exact .base (.int b)
  | str b => cases e; cases h; exact .base (.str b)
  | tup xs =>
    cases e
    obtain ⟨a, vs, rfl, q, _⟩ := h
    rcases s.sqT q with (r | ⟨o, r⟩) | ⟨o, its, n, hk, hc, _⟩
    · exact .base (.tup r)
    · exact .fTuple r
    · exact .kTuple hk hc
  | lst xs =>
    cases e
    obtain ⟨a, vs, rfl, q, _⟩ := h
    exact .base (.lst q)
  | scr xs =>
    cases e
    obtain ⟨a, rfl, q⟩ := h
    rcases q with (r | ⟨o, r⟩) | ⟨o, its, n, hk, hc, _⟩
    · exact .base (.lst r)
    · exact .base (.frz r)
    · exact .kList hk hc
  | _ => cases e
section
variable {X : Cx} {Wx : WX} {io : List Nat} {e : Expr} {f : Rho → Rs R} {p p2 pos : Pos} {x y : Str} {T : String}
theorem SE_isi (hg : Gl X x) (hm : X.mg x = none) (hv : bootBuiltins x = some (.builtin "isinstance")) (hg2 : Gl X y) (hm2 : X.mg y = none) (hv2 : bootBuiltins y = some (.type T)) (ha : SE X Wx io e f)
    (hn : x ≠ "__name__") (hdb : (x == ("__debug__" : Str)) = false) (hn2 : y ≠ "__name__") (hdb2 : (y == ("__debug__" : Str)) = false)
    (he : starEach [e, .Name y p2] X.env = (false, eval e X.env) :: starEach [.Name y p2] X.env) (he2 : starEach [.Name y p2] X.env = (false, eval (.Name y p2) X.env) :: starEach [] X.env) (hpl : (backTo pos (starEach [.Name y p2] X.env)).any (·.1) = false) :
    SE X Wx io (.Call (.Name x p) [e, .Name y p2] [] pos) (ev1 (isiD T) f) :=
  PE.imp (pe_callB call_isi hg hm hv (pa_cons ha (pa_cons (pe_bltn (v := .ty T) hg2 hm2 hv2 rfl hn2 hdb2) pa_nil he2) he) hn hdb he hpl) fun σ H Q ⟨ρ, g, hio, G, q⟩ => by
    refine tS.bind hio (.refl g H) G q fun r ρ1 g1 v H1 _ x1 G1 r1 p1 => ?_
    obtain ⟨z, hz, q⟩ := p1.fin x1 G1
    obtain ⟨d, hd, ho⟩ := Option.bind_eq_some_iff.mp hz
    obtain ⟨n, hn, ho⟩ := Option.bind_eq_some_iff.mp ho
    obtain ⟨b, hb, rfl⟩ := Option.map_eq_some_iff.mp ho
    exact ⟨v, .ty T, .type n, .type T, b, rfl, .ty T, (r1.u G1 hd).ty G1.sub hn, kit_ty hb, q_val G1.sub q repB⟩
end
theorem kb_int_int : kitB "int" "int" = some true := by decide +kernel
theorem kb_bool_int : kitB "bool" "int" = some true := by decide +kernel
theorem kb_int_bool : kitB "int" "bool" = some false := by decide +kernel
theorem kb_bool_bool : kitB "bool" "bool" = some true := by decide +kernel
theorem kb_tup_tup : kitB "tuple" "tuple" = some true := by decide +kernel
theorem kb_tup_int : kitB "tuple" "int" = some false := by decide +kernel
theorem kb_lst_tup : kitB "list" "tuple" = some false := by decide +kernel
theorem kb_non_tup : kitB "NoneType" "tuple" = some false := by decide +kernel
theorem kb_int_tup : kitB "int" "tuple" = some false := by decide +kernel
theorem kb_str_tup : kitB "str" "tuple" = some false := by decide +kernel
theorem kb_str_int : kitB "str" "int" = some false := by decide +kernel
theorem kb_non_int : kitB "NoneType" "int" = some false := by decide +kernel

/-! things that change a list of one's own -/
/-- at the place i: what becomes of it, what comes out; the new value is frozen -/
def evMut (i : Nat) (k : W → Bool) (o : W → List D → Option (W × D)) (h : Rho → Rs (List D)) (ρ : Rho) : Rs R := if (look ρ i).any k = true then (h ρ).bind fun ds ρ1 => match look ρ1 i with
  | some w => match o w ds with
    | some (w', d) => .ok (.val d) (ρ1.set i (some w'))
    | none => .stuck
  | none => .stuck
  else .stuck
theorem Rel.write {K : PySem.W.Frag} {g : Gh} {ρ : Rho} {σ : St} {H : Hp} {i : Nat} {w' : W} {a : Addr} {v : V} {o : HO} (G : Rel K g ρ σ H) (ho : g.own i = some a) (hv : σ[i]? = some (some v)) (r : RepW K g.Z (upd H a o) w' v (some a)) : Rel K g (ρ.set i (some w')) σ (upd H a o) ∧ Ext g H g (upd H a o) := by
  have il : i < ρ.length := G.lt_of ho
  refine ⟨⟨by rw [List.length_set]; exact G.len, fun b u e => ?_, fun j u e => ?_, fun j e => ?_, G.nz, G.inj⟩, ⟨fun _ _ h => h, fun b u h n => ?_, fun b h => ?_, fun b h => .inl h, fun j b h => .inl ⟨j, h⟩, rfl, fun _ _ => rfl⟩⟩
  · have hb : b ≠ a := fun z => by rw [z, G.nz i a ho] at e; cases e
    rw [upd_ne hb]; exact G.sub b u e
  · rw [look_set il] at e
    by_cases hj : j = i
    · subst hj
      rw [if_pos rfl] at e; cases e
      exact ⟨v, hv, by rw [ho]; exact r⟩
    · rw [if_neg hj] at e
      obtain ⟨x, hx, rx⟩ := G.at_ j u e
      exact ⟨x, hx, rx.stay (fun _ _ h => h) fun b q eb hb => by
        have hb2 : b ≠ a := fun z => hj (G.inj j i a (by rw [← z]; exact eb) ho)
        rw [upd_ne hb2]; exact hb⟩
  · rw [look_set il] at e
    by_cases hj : j = i
    · rw [if_pos hj] at e; cases e
    · rw [if_neg hj] at e; exact G.emp j e
  · have hb : b ≠ a := fun z => n i (by rw [z]; exact ho)
    rw [upd_ne hb]; exact h
  · by_cases hb : b = a
    · subst hb; rw [upd_same]; simp
    · rw [upd_ne hb]; exact h
/-- the owned list at a place -/
theorem Rel.lst_at {K : PySem.W.Frag} {g : Gh} {ρ : Rho} {σ : St} {H : Hp} {i : Nat} {xs : List D} (G : Rel K g ρ σ H) (e : look ρ i = some (.lst xs)) : ∃ a vs, σ[i]? = some (some (.ref a)) ∧ g.own i = some a ∧ H a = some (.lst vs) ∧ RepL K g.Z xs vs := by
  obtain ⟨v, hv, a, vs, rfl, ho, ha, r⟩ := G.at_ i _ e
  exact ⟨a, vs, hv, ho, ha, r⟩
theorem Rel.dic_at {K : PySem.W.Frag} {g : Gh} {ρ : Rho} {σ : St} {H : Hp} {i : Nat} {ks : List KK} {xs : List D} (G : Rel K g ρ σ H) (e : look ρ i = some (.dic ks xs)) : ∃ a vs, σ[i]? = some (some (.ref a)) ∧ g.own i = some a ∧ (ks.length = vs.length ∧ ks.Nodup ∧
      ((∃ kk : List Key, ks = kk.map Sum.inl ∧ H a = some (.dK (kk.zip vs))) ∨ (∃ kk : List (List Key), (ks = kk.map Sum.inr ∧ kk ≠ []) ∧ H a = some (.dT (kk.zip vs))))) ∧ RepL K g.Z xs vs := by
  obtain ⟨v, hv, a, vs, rfl, ho, ha, r⟩ := G.at_ i _ e
  exact ⟨a, vs, hv, ho, ha, r⟩
/-- a method that changes its object, by what it asks -/
structure MutOk (T : String) (k : W → Bool) (o : W → List D → Option (W × D)) (r : V → List V → Hp → VK → Prop) : Prop where
  own : ∀ w, k w = true → ∀ d, w ≠ .dat d
  ty : ∀ (K : PySem.W.Frag) (Z H : Hp) (w : W) (a : Addr), k w = true → RepW K Z H w (.ref a) (some a) → tyV K T (.ref a) H
  run : ∀ (K : PySem.W.Frag) (Z H : Hp) (w w' : W) (ds : List D) (d : D) (a : Addr) (vs : List V) (Q : VK), o w ds = some (w', d) → RepW K Z H w (.ref a) (some a) → RepL K Z ds vs →
    (∀ o v, RepW K Z (upd H a o) w' (.ref a) (some a) → RepD K Z d v → Q v (upd H a o)) → r (.ref a) vs H Q
  nd : ∀ w ds, o w ds ≠ none → ∀ d, w ≠ .dat d
theorem mut_start {K : PySem.W.Frag} {g : Gh} {ρ : Rho} {σ : St} {H : Hp} {i : Nat} {k : W → Bool} {T : String} {o : W → List D → Option (W × D)} {r : V → List V → Hp → VK → Prop} (m : MutOk T k o r) (G : Rel K g ρ σ H) (h : (look ρ i).any k = true) : ∃ a, σ[i]? = some (some (.ref a)) ∧ tyV K T (.ref a) H := by
  cases e : look ρ i with
  | none => rw [e] at h; cases h
  | some w =>
    rw [e] at h
    obtain ⟨v, hv, rw'⟩ := G.at_ i w e
    rcases rw'.own_of with ⟨d, rfl, _⟩ | ⟨a, ho⟩
    · exact absurd rfl (m.own _ h d)
    · rw [ho] at rw'
      have ev := rw'.own_some.1
      subst ev
      exact ⟨a, hv, m.ty K g.Z H w a h rw'⟩
theorem mut_end {c : Ct} {g g1 : Gh} {ρ1 : Rho} {σ : St} {H H1 : Hp} {i : Nat} {k : W → Bool} {T : String} {o : W → List D → Option (W × D)} {r : V → List V → Hp → VK → Prop} {ds : List D} {vs : List V} {a : Addr} {Q : VK} (m : MutOk T k o r) (x1 : Ext g H g1 H1) (G1 : Rel c.K g1 ρ1 σ H1) (hv : σ[i]? = some (some (.ref a))) (rl : RepL c.K g1.Z ds vs)
    (p : Post c g σ H (repR c σ H) Q (match look ρ1 i with
      | some w => match o w ds with
        | some (w', d) => .ok (.val d) (ρ1.set i (some w'))
        | none => .stuck
      | none => .stuck)) : r (.ref a) vs H1 Q := by
  cases e : look ρ1 i with
  | none => rw [e] at p; exact p.elim
  | some w =>
    rw [e] at p
    dsimp only at p
    cases eo : o w ds with
    | none => rw [eo] at p; exact p.elim
    | some wd =>
      obtain ⟨w', d⟩ := wd
      rw [eo] at p
      dsimp only at p
      obtain ⟨v, hv2, rw'⟩ := G1.at_ i w e
      rw [hv] at hv2
      cases hv2
      rcases rw'.own_of with ⟨d', rfl, _⟩ | ⟨b, ho⟩
      · exact absurd rfl (m.nd _ ds (by rw [eo]; simp) d')
      · rw [ho] at rw'
        have ev := rw'.own_some.1
        cases ev
        refine m.run c.K g1.Z H1 w w' ds d _ vs Q eo rw' rl fun o' v' r1 r2 => ?_
        obtain ⟨G2, x2⟩ := G1.write ho hv r1
        exact p v' _ g1 (x1.trans x2) G2 r2
section
variable {X : Cx} {Wx : WX} {io : List Nat} {o e : Expr} {es : List Expr} {f : Rho → Rs R} {h : Rho → Rs (List D)} {name : Str} {apos cpos : Pos} {T id : String} {k : W → Bool} {ow : W → List D → Option (W × D)} {r : V → List V → Hp → VK → Prop}
theorem SE_mut {i : Nat} (m : MutOk T k ow r) (pa : PlainAttrs T) (slot : Slot T name id) (hty : typeOf (.builtin id) = pure (.type "method_descriptor")) (hm : MtR X id r) (ho : PE X o (tVar i)) (ha : SL X Wx io (e :: es) h) (hbase : attributeBase o name X.env (eval o X.env) = eval o X.env)
    (hfew : ((backTo cpos (starEach (e :: es) X.env)).all (fun x => !x.1) && (backToKw cpos (keywordEach [] X.env)).all (fun x => x.1.isSome) && decide ((e :: es).length + ([] : List Keyword).length + (if ([] : List Keyword).isEmpty then 0 else 1) < 30)) = true)
    (hline : (apos.endLine == cpos.line) = true) (hs : starEach (e :: es) X.env = (false, eval e X.env) :: starEach es X.env) (hplain : (backTo cpos (starEach es X.env)).any (·.1) = false) : SE X Wx io (.Call (.Attribute o name apos) (e :: es) [] cpos) (evMut i k ow h) :=
  PE.imp (pe_bm pa slot hty hm ho ha hbase hfew hline hs hplain) fun σ H Q ⟨ρ, g, hio, G, q⟩ => by
    unfold evMut at q
    by_cases hk : (look ρ i).any k = true
    · rw [if_pos hk] at q
      obtain ⟨a, hv, ty⟩ := mut_start m G hk
      refine ⟨_, hv, ty, ?_⟩
      refine tL.bind (c := ⟨X.K, Wx, io⟩) hio (.refl g H) G q fun ds ρ1 g1 vs H1 _ x1 G1 r1 p1 => ?_
      exact mut_end (c := ⟨X.K, Wx, io⟩) m x1 G1 hv r1 p1
    · rw [if_neg hk] at q; exact q.elim
theorem SE_mut0 {i : Nat} (m : MutOk T k ow r) (pa : PlainAttrs T) (slot : Slot T name id) (hty : typeOf (.builtin id) = pure (.type "method_descriptor")) (hm : MtR X id r) (ho : PE X o (tVar i)) (hbase : attributeBase o name X.env (eval o X.env) = eval o X.env)
    (hline : (apos.endLine == cpos.line) = true) : SE X Wx io (.Call (.Attribute o name apos) [] [] cpos) (evMut i k ow evNil) :=
  PE.imp (pe_bm0 pa slot hty hm ho hbase hline) fun σ H Q ⟨ρ, g, hio, G, q⟩ => by
    unfold evMut at q
    by_cases hk : (look ρ i).any k = true
    · rw [if_pos hk] at q
      obtain ⟨a, hv, ty⟩ := mut_start m G hk
      exact ⟨_, hv, ty, mut_end (c := ⟨X.K, Wx, io⟩) m (.refl g H) G hv .nil q⟩
    · rw [if_neg hk] at q; exact q.elim
end
def W.isLst : W → Bool
  | .lst _ => true
  | _ => false
def appendW : W → List D → Option (W × D)
  | .lst xs, [d] => if xs.length < sizeLine then some (.lst (xs ++ [d]), .non) else none
  | _, _ => none
def popW : W → List D → Option (W × D)
  | .lst xs, [] => (xs[xs.length - 1]?).map fun d => (.lst xs.dropLast, d)
  | _, _ => none
theorem RepL.dropLast {K : PySem.W.Frag} {Z : Hp} {xs : List D} {vs : List V} (r : RepL K Z xs vs) : RepL K Z xs.dropLast vs.dropLast := by
  rw [List.dropLast_eq_take, List.dropLast_eq_take, r.length]
  exact r.take _
theorem lst_own : ∀ w : W, w.isLst = true → ∀ d, w ≠ .dat d := fun w h d e => by subst e; cases h
theorem lst_ty : ∀ (K : PySem.W.Frag) (Z H : Hp) (w : W) (a : Addr), w.isLst = true → RepW K Z H w (.ref a) (some a) → tyV K "list" (.ref a) H := fun K Z H w a h r => by
  cases w with
  | lst xs =>
    obtain ⟨b, vs, e, e1, e2, _⟩ := r
    cases e1
    exact .inl ⟨rfl, vs, .of e2⟩
  | _ => cases h
theorem mut_append : MutOk "list" W.isLst appendW rAppend where
  own := lst_own
  ty := lst_ty
  nd := fun w ds h d e => by subst e; exact h rfl
  run := fun K Z H w w' ds d a vs Q e r rl q => by
    unfold appendW at e
    split at e
    · rename_i xs y
      split at e
      · rename_i hl
        cases e
        obtain ⟨b, us, _, e1, e2, rx⟩ := r
        cases e1
        have rl2 := rl
        unfold RepL at rl2
        obtain ⟨v, t, rfl, h1, h2⟩ := rl2
        unfold RepL at h2
        subst h2
        exact ⟨_, us, v, rfl, rfl, e2, by rw [← rx.length]; exact hl, q _ _ ⟨_, _, rfl, rfl, upd_same, rx.append rl⟩ repN⟩
      · cases e
    · cases e
theorem mut_pop : MutOk "list" W.isLst popW rPop where
  own := lst_own
  ty := lst_ty
  nd := fun w ds h d e => by subst e; exact h rfl
  run := fun K Z H w w' ds d a vs Q e r rl q => by
    unfold popW at e
    split at e
    · rename_i xs
      obtain ⟨y, hy, e⟩ := Option.map_eq_some_iff.mp e
      cases e
      obtain ⟨b, us, _, e1, e2, rx⟩ := r
      cases e1
      unfold RepL at rl
      subst rl
      obtain ⟨v, hv, rv⟩ := rx.get hy
      rw [rx.length] at hv
      exact ⟨_, us, v, rfl, rfl, e2, hv, q _ _ ⟨_, _, rfl, rfl, upd_same, rx.dropLast⟩ rv⟩
    · cases e

/-! xs[i] = e, d[k] = e: the value first, then the place, then the index -/
def setW (o : W → D → D → Option W) (i : Nat) (r : R) (d : D) (ρ : Rho) : Rs Fl := match look ρ i, r.view ρ with
  | some w, some x => match o w x d with
    | some w' => .ok .nx (ρ.set i (some w'))
    | none => .stuck
  | _, _ => .stuck
def stSetIx (io : List Nat) (i : Nat) (o : W → D → D → Option W) (fv fi : Rho → Rs R) (ρ : Rho) : Rs Fl := (fv ρ).bind fun r ρ1 => (freeze io r ρ1).bind fun d ρ2 => if (look ρ2 i).isSome = true then (fi ρ2).bind fun q ρ3 => setW o i q d ρ3 else .stuck
def lstSet : W → D → D → Option W
  | .lst xs, .int k, d => (ixN xs.length k).map fun j => .lst (xs.set j d)
  | _, _, _ => none

theorem Rel.put' {K : PySem.W.Frag} {g0 g : Gh} {ρ : Rho} {σ : St} {H0 H : Hp} {i : Nat} {w : W} {v : V} {o : Option Addr} (x : Ext g0 H0 g H) (G : Rel K g ρ σ H) (il : i < ρ.length) (hi : i ∉ g0.io) (r : RepW K g.Z H w v o) (hz : ∀ a, o = some a → g.Z a = none ∧ (∀ j, g.own j ≠ some a) ∧ H0 a = none) :
    Rel K ⟨g.Z, fun j => if j = i then o else g.own j, g.io⟩ (ρ.set i (some w)) (σ.set i (some v)) H ∧ Ext g0 H0 ⟨g.Z, fun j => if j = i then o else g.own j, g.io⟩ H := by
  refine ⟨⟨by simp [G.len], G.sub, fun j u h => ?_, fun j h => ?_, fun j b h => ?_, fun j k b h1 h2 => ?_⟩, ⟨x.z, x.fr, x.fr2, x.nw, fun j b h => ?_, x.io, fun j hj => ?_⟩⟩
  · rw [look_set il] at h
    show ∃ v', (σ.set i (some v))[j]? = some (some v') ∧ RepW K g.Z H u v' (if j = i then o else g.own j)
    by_cases e : j = i
    · subst e
      rw [if_pos rfl] at h ⊢
      cases h
      exact ⟨v, by rw [List.getElem?_set_self (by rw [← G.len]; exact il)], r⟩
    · rw [if_neg e] at h ⊢
      rw [List.getElem?_set_ne (Ne.symm e)]
      exact G.at_ j u h
  · rw [look_set il] at h
    show (if j = i then o else g.own j) = none
    by_cases e : j = i
    · rw [if_pos e] at h; cases h
    · rw [if_neg e] at h ⊢; exact G.emp j h
  · have h : (if j = i then o else g.own j) = some b := h
    split at h
    · exact (hz b h).1
    · exact G.nz j b h
  · have h1 : (if j = i then o else g.own j) = some b := h1
    have h2 : (if k = i then o else g.own k) = some b := h2
    by_cases ej : j = i
    · rw [if_pos ej] at h1
      by_cases ek : k = i
      · rw [ej, ek]
      · rw [if_neg ek] at h2; exact absurd h2 ((hz b h1).2.1 k)
    · rw [if_neg ej] at h1
      by_cases ek : k = i
      · rw [if_pos ek] at h2; exact absurd h1 ((hz b h2).2.1 j)
      · rw [if_neg ek] at h2; exact G.inj j k b h1 h2
  · have h : (if j = i then o else g.own j) = some b := h
    split at h
    · exact .inr (hz b h).2.2
    · exact x.ow j b h
  · exact (if_neg (fun e : j = i => hi (e ▸ hj))).trans (x.ioo j hj)
theorem tS.stmt2 {c : Ct} {g g1 : Gh} {ρ : Rho} {σ : St} {H H1 : Hp} {f : Rho → Rs R} {k : R → Rho → Rs Fl} {D : Ends} {T : V → Hp → Prop} (hio : g.io = c.io) (x1 : Ext g H g1 H1) (G : Rel c.K g1 ρ σ H1)
    (h : PostS c g σ H D ((f ρ).bind k)) (n : ∀ r ρ2 g2 v H2, Ext g1 H1 g2 H2 → Ext g H g2 H2 → Rel c.K g2 ρ2 σ H2 → RepR c.K H1 g2 σ H2 r v → PostS c g σ H D (k r ρ2) → T v H2) : tS c f σ H1 T := tS.stmt hio x1 G h n
/-- a place that is set, by what it asks -/
structure SetOk (o : W → D → D → Option W) (r : TSet) : Prop where
  nd : ∀ w x d, o w x d ≠ none → ∀ e, w ≠ .dat e
  run : ∀ (K : PySem.W.Frag) (Z H : Hp) (w w' : W) (x d : D) (a : Addr) (vx vd : V) (Q : Hp → Prop), o w x d = some w' → Sub Z H → RepW K Z H w (.ref a) (some a) → RepU K Z H x vx → RepD K Z d vd →
    (∀ o, RepW K Z (upd H a o) w' (.ref a) (some a) → Q (upd H a o)) → r (.ref a) vx vd H Q
section
variable {X : Cx} {Wx : WX} {io : List Nat} {o ix e : Expr} {fv fi : Rho → Rs R} {pos pos' : Pos} {ow : W → D → D → Option W} {r : TSet}
theorem SSt_setIx {i : Nat} (m : SetOk ow r) (hs : PSet X r) (ho : PE X o (tVar i)) (hi : SE X Wx io ix fi) (he : SE X Wx io e fv)
    (ha : ∀ v, assign (.Subscript o ix pos') X.env v = (do
      let ov ← holding [v] (eval o X.env)
      let iv ← holding [v, ov] (eval ix X.env)
      standAt pos'
      holding [v, ov, iv] (setItem ov iv v)
      release [v, ov, iv] []))
    (hsw : swapsWithSole [.Subscript o ix pos'] e pos.line X.env = pure false) (hw : swappedStores [.Subscript o ix pos'] e X.env = pure none) (h1 : (assignEach [.Subscript o ix pos'] X.env).map (·.2) = [assign (.Subscript o ix pos') X.env]) :
    SSt X Wx io (.Assign [.Subscript o ix pos'] e pos) (stSetIx io i ow fv fi) := PS.imp (ps_asg he (pg_sub ho hi hs ha) hsw hw h1) fun D σ H ⟨ρ, g, hio, G, q⟩ =>
  tS.stmt hio (.refl g H) G q fun r1 ρ2 g2 v H2 _ x2 G2 rr p => by
    obtain ⟨d, ρ3, g3, x3, G3, rd, p3⟩ := PostS.frzb (c := ⟨X.K, Wx, io⟩) hio x2 G2 rr p
    by_cases hk : (look ρ3 i).isSome = true
    · rw [if_pos hk] at p3
      obtain ⟨w0, e0⟩ := Option.isSome_iff_exists.mp hk
      obtain ⟨v0, hv0, _⟩ := G3.at_ i w0 e0
      refine ⟨v0, hv0, ?_⟩
      refine tS.stmt (c := ⟨X.K, Wx, io⟩) hio x3 G3 p3 fun s ρ4 g4 u H4 x34 x4 G4 r4 p4 => ?_
      unfold setW at p4
      cases e1 : look ρ4 i with
      | none => rw [e1] at p4; exact p4.elim
      | some w =>
        cases e2 : s.view ρ4 with
        | none => rw [e1, e2] at p4; exact p4.elim
        | some y =>
          rw [e1, e2] at p4
          dsimp only at p4
          cases eo : ow w y d with
          | none => rw [eo] at p4; exact p4.elim
          | some w' =>
            rw [eo] at p4
            dsimp only at p4
            obtain ⟨v1, hv1, rw'⟩ := G4.at_ i w e1
            rw [hv0] at hv1
            cases hv1
            rcases rw'.own_of with ⟨d', rfl, _⟩ | ⟨b, hb⟩
            · exact absurd rfl (m.nd _ _ _ (by rw [eo]; simp) d')
            · rw [hb] at rw'
              have ev := rw'.own_some.1
              subst ev
              refine m.run X.K g4.Z H4 w w' y d b u v _ eo G4.sub rw' (r4.u G4 e2) (rd.sub (.of x34.z)) fun o' r5 => ?_
              obtain ⟨G5, x5⟩ := G4.write hb hv0 r5
              exact p4 _ _ g4 (x4.trans x5) G5
    · rw [if_neg hk] at p3; exact p3.elim
end
theorem set_lstOk : SetOk lstSet rSetL where
  nd := fun w x d h e z => by subst z; exact h rfl
  run := fun K Z H w w' x d a vx vd Q e s r u rd q => by
    unfold lstSet at e
    split at e
    · rename_i xs k d'
      obtain ⟨j, hj, e⟩ := Option.map_eq_some_iff.mp e
      cases e
      obtain ⟨b, us, _, e1, e2, rx⟩ := r
      cases e1
      cases u
      rw [rx.length] at hj
      exact ⟨_, us, _, j, rfl, rfl, e2, hj, q _ ⟨_, _, rfl, rfl, upd_same, rx.set rd j⟩⟩
    · cases e
/-! x op= e -/
def augD : B → D → D → Option R
  | .add, .int i, .int j => some (.val (.int (i + j)))
  | .sub, .int i, .int j => some (.val (.int (i - j)))
  | .mul, .int i, .int j => if mulOk i j = true then some (.val (.int (i * j))) else none
  | .fdiv, .int i, .int j => if 0 < j ∧ j.natAbs.log2 < 9000 then some (.val (.int (i / j))) else none
  | .mod, .int i, .int j => if 0 < j then some (.val (.int (i % j))) else none
  | _, _, _ => none
def stAug (io : List Nat) (i : Nat) (o : D → D → Option R) (f : Rho → Rs R) (ρ : Rho) : Rs Fl := if (look ρ i).isSome = true then (f ρ).bind fun q ρ2 => match look ρ2 i, q.view ρ2 with
  | some w, some e => match o w.view e with
    | some r => un (store io i r ρ2)
    | none => .stuck
  | _, _ => .stuck
  else .stuck
section
variable {X : Cx} {Wx : WX} {io : List Nat} {e : Expr} {f : Rho → Rs R} {pos pos' : Pos} {op : Operator} {o : D → D → Option R} {x : Str}
theorem SSt_aug {i : Nat} (hN : X.N.Nodup) (hi : X.N[i]? = some x) (hx : Loc X.env.scope x) (he : SE X Wx io e f) (ho : OpR X (inplaceOp op) (rO2 X.K o)) (hf : X.fn x = true ∨ X.env.scope.names.lookup x = some .local) :
    SSt X Wx io (.AugAssign (.Name x pos') op e pos) (stAug io i o f) := PS.imp (ps_aug (ti := rO2 X.K o) hN hi hx he ho hf) fun D σ H ⟨ρ, g, hio, G, q⟩ => by
  unfold stAug at q
  by_cases hk : (look ρ i).isSome = true
  · rw [if_pos hk] at q
    obtain ⟨w0, e0⟩ := Option.isSome_iff_exists.mp hk
    obtain ⟨v0, hv0, _⟩ := G.at_ i w0 e0
    refine ⟨v0, hv0, ?_⟩
    refine tS.stmt (c := ⟨X.K, Wx, io⟩) hio (.refl g H) G q fun s ρ2 g2 u H2 _ x2 G2 r2 p2 => ?_
    cases e1 : look ρ2 i with
    | none => rw [e1] at p2; exact p2.elim
    | some w =>
      cases e2 : s.view ρ2 with
      | none => rw [e1, e2] at p2; exact p2.elim
      | some y =>
        rw [e1, e2] at p2
        dsimp only at p2
        cases eo : o w.view y with
        | none => rw [eo] at p2; exact p2.elim
        | some r =>
          rw [eo] at p2
          dsimp only at p2
          obtain ⟨v1, hv1, rw'⟩ := G2.at_ i w e1
          rw [hv0] at hv1
          cases hv1
          refine ⟨g2.Z, w.view, y, r, G2.sub, rw'.u G2.sub, r2.u G2 e2, eo, fun v' H' Z' nw rn => ?_⟩
          obtain ⟨ex, G'⟩ := nw.ext G2
          exact PostS.stored (c := ⟨X.K, Wx, io⟩) hio (x2.trans ex) G' (RepR.from x2.fr2 (rn.r G2 nw)) p2
  · rw [if_neg hk] at q; exact q.elim
theorem ip_D : ∀ (b : B), (match b with | .add => OpR X (inplaceOp .Add) (rO2 X.K (augD .add)) | .sub => OpR X (inplaceOp .Sub) (rO2 X.K (augD .sub)) | .fdiv => OpR X (inplaceOp .FloorDiv) (rO2 X.K (augD .fdiv)) | .mod => OpR X (inplaceOp .Mod) (rO2 X.K (augD .mod)) | _ => True)
  | .add => by
    refine OpR.split fun d e r h => ?_
    unfold augD at h
    split at h <;> first | (cases h; done) | skip
    all_goals first | (rename_i q; cases q; done) | skip
    cases h
    exact OpR.imp iop_add fun x y H Q ⟨Z, s, hx, hy, q⟩ => ⟨_, _, hx, hy, q_val s q repI⟩
  | .sub => by
    refine OpR.split fun d e r h => ?_
    unfold augD at h
    split at h <;> first | (cases h; done) | skip
    all_goals first | (rename_i q; cases q; done) | skip
    cases h
    exact OpR.imp iop_sub fun x y H Q ⟨Z, s, hx, hy, q⟩ => ⟨_, _, hx, hy, q_val s q repI⟩
  | .fdiv => by
    refine OpR.split fun d e r h => ?_
    cases d <;> cases e <;> first | (cases h; done) | skip
    rename_i i j
    have h : (if 0 < j ∧ j.natAbs.log2 < 9000 then some (R.val (.int (i / j))) else none) = some r := h
    by_cases hl : 0 < j ∧ j.natAbs.log2 < 9000
    · rw [if_pos hl] at h; cases h
      exact OpR.imp iop_fdivW fun x y H Q ⟨Z, s, hx, hy, q⟩ => ⟨_, _, hx, hy, hl, q_val s q repI⟩
    · rw [if_neg hl] at h; cases h
  | .mod => by
    refine OpR.split fun d e r h => ?_
    cases d <;> cases e <;> first | (cases h; done) | skip
    rename_i i j
    have h : (if 0 < j then some (R.val (.int (i % j))) else none) = some r := h
    by_cases hl : 0 < j
    · rw [if_pos hl] at h; cases h
      exact OpR.imp iop_mod fun x y H Q ⟨Z, s, hx, hy, q⟩ => ⟨_, _, hx, hy, hl, q_val s q repI⟩
    · rw [if_neg hl] at h; cases h
  | .mul => trivial
  | .pow => trivial
end

/-! several names at once -/
def settle (io : List Nat) (r : R) (ρ : Rho) : Rs R := match r with
  | .place i => (freeze io (.place i) ρ).bind fun d ρ1 => .ok (.val d) ρ1
  | r => .ok r ρ
def R.set : R → Prop
  | .place _ => False
  | _ => True
def tmpsV : List R → List V → List V
  | .tmp _ :: rs, v :: vs => v :: tmpsV rs vs
  | _ :: rs, _ :: vs => tmpsV rs vs
  | _, _ => []
inductive RepSs (K : PySem.W.Frag) (H0 : Hp) (g : Gh) (σ : St) (H : Hp) : List R → List V → Prop
  | nil : RepSs K H0 g σ H [] []
  | cons {r : R} {v : V} {rs : List R} {vs : List V} : RepR K H0 g σ H r v → r.set → (∀ w, r = .tmp w → v ∉ tmpsV rs vs) → RepSs K H0 g σ H rs vs → RepSs K H0 g σ H (r :: rs) (v :: vs)
def repSs (c : Ct) (σ : St) (H0 : Hp) : Gh → Hp → List R → List V → Prop := fun g' H' rs vs => RepSs c.K H0 g' σ H' rs vs
theorem RepSs.from {K : PySem.W.Frag} {H0 H1 : Hp} {g : Gh} {σ : St} {H : Hp} (k : ∀ b, H0 b ≠ none → H1 b ≠ none) {rs : List R} {vs : List V} (h : RepSs K H1 g σ H rs vs) : RepSs K H0 g σ H rs vs := by
  induction h with
  | nil => exact .nil
  | cons a b c _ ih => exact .cons (RepR.from k a) b c ih
/-- a new thing was not there -/
theorem RepSs.fresh {K : PySem.W.Frag} {H0 : Hp} {g : Gh} {σ : St} {H : Hp} {rs : List R} {vs : List V} (h : RepSs K H0 g σ H rs vs) {a : Addr} (ha : H0 a ≠ none) : V.ref a ∉ tmpsV rs vs := by
  induction h with
  | nil => simp [tmpsV]
  | @cons r v rs vs x s t _ ih =>
    cases r with
    | place i => exact s.elim
    | val d => exact ih
    | tmp w =>
      obtain ⟨b, rw', _, _, h0⟩ := x
      have ev := rw'.own_some.1
      subst ev
      show V.ref a ∉ V.ref b :: tmpsV rs vs
      intro hm
      rcases List.mem_cons.mp hm with e | hm
      · cases e; exact ha h0
      · exact ih hm
theorem settle_ok {K : PySem.W.Frag} {g0 g : Gh} {ρ : Rho} {σ : St} {H0 H : Hp} {r : R} {v : V} (x : Ext g0 H0 g H) (G : Rel K g ρ σ H) (h : RepR K H0 g σ H r v) :
    settle g0.io r ρ = .stuck ∨ ∃ r' ρ' g', settle g0.io r ρ = .ok r' ρ' ∧ Ext g0 H0 g' H ∧ Rel K g' ρ' σ H ∧ RepR K H0 g' σ H r' v ∧ r'.set := by
  cases r with
  | val d => exact .inr ⟨_, ρ, g, rfl, x, G, h, trivial⟩
  | tmp w => exact .inr ⟨_, ρ, g, rfl, x, G, h, trivial⟩
  | place i =>
    rcases freeze_ok x G h with e | ⟨d, ρ', g', e, x', G', rd⟩
    · exact .inl (by show (freeze g0.io (.place i) ρ).bind _ = _; rw [e]; rfl)
    · exact .inr ⟨.val d, ρ', g', by show (freeze g0.io (.place i) ρ).bind _ = _; rw [e]; rfl, x', G', rd, trivial⟩
def tSs (c : Ct) (f : Rho → Rs (List R)) : TA := fun σ H Q => ∃ ρ g, g.io = c.io ∧ Rel c.K g ρ σ H ∧ Post c g σ H (repSs c σ H) Q (f ρ)
def SSet (X : Cx) (Wx : WX) (io : List Nat) (es : List Expr) (f : Rho → Rs (List R)) : Prop := PA X es (tSs ⟨X.K, Wx, io⟩ f)
def seCons (io : List Nat) (f : Rho → Rs R) (h : Rho → Rs (List R)) (ρ : Rho) : Rs (List R) := (f ρ).bind fun r ρ1 => (settle io r ρ1).bind fun r' ρ2 => (h ρ2).bind fun rs ρ3 => .ok (r' :: rs) ρ3
section
variable {X : Cx} {Wx : WX} {io : List Nat} {e : Expr} {es : List Expr} {f : Rho → Rs R} {h : Rho → Rs (List R)}
theorem SSet_nil : SSet X Wx io [] arNil := PA.imp pa_nil fun σ H Q ⟨ρ, g, hio, G, q⟩ => q [] H g (.refl g H) G .nil
theorem SSet_cons (ha : SE X Wx io e f) (hr : SSet X Wx io es h) (hs : starEach (e :: es) X.env = (false, eval e X.env) :: starEach es X.env) : SSet X Wx io (e :: es) (seCons io f h) :=
  PA.imp (pa_cons ha hr hs) fun σ H Q ⟨ρ, g, hio, G, q⟩ => by
    refine tS.bind hio (.refl g H) G q fun r ρ1 g1 v H1 _ x1 G1 r1 p1 => ?_
    rcases settle_ok x1 G1 r1 with e | ⟨r', ρ2, g2, e, x2, G2, r2, st⟩
    · rw [hio] at e
      have p1 : Post ⟨X.K, Wx, io⟩ g σ H (repSs ⟨X.K, Wx, io⟩ σ H) Q ((settle io r ρ1).bind fun r' ρ2 => (h ρ2).bind fun rs ρ3 => .ok (r' :: rs) ρ3) := p1
      rw [e] at p1; exact p1.elim
    · rw [hio] at e
      have p1 : Post ⟨X.K, Wx, io⟩ g σ H (repSs ⟨X.K, Wx, io⟩ σ H) Q ((settle io r ρ1).bind fun r' ρ2 => (h ρ2).bind fun rs ρ3 => .ok (r' :: rs) ρ3) := p1
      rw [e] at p1
      have p1 : Post ⟨X.K, Wx, io⟩ g σ H (repSs ⟨X.K, Wx, io⟩ σ H) Q ((h ρ2).bind fun rs ρ3 => .ok (r' :: rs) ρ3) := p1
      refine ⟨ρ2, g2, x2.io.trans hio, G2, ?_⟩
      cases eh : h ρ2 with
      | stuck => rw [eh] at p1; exact p1
      | exc cn ns ds ρ' => rw [eh] at p1; exact fun dx vs H' g' x' G' e1 e2 e3 => p1 dx vs H' g' (x2.trans x') G' e1 e2 e3
      | ok rs ρ3 =>
        rw [eh] at p1
        intro vs H3 g3 x3 G3 r3
        refine p1 _ H3 g3 (x2.trans x3) G3 (.cons (r2.ext x3) st (fun w ew => ?_) (r3.from x2.fr2))
        subst ew
        obtain ⟨a, rw', _⟩ := r2
        obtain ⟨ev, o, ho⟩ := rw'.own_some
        subst ev
        exact r3.fresh (by rw [ho]; simp)
end
def setAll (σ : St) : List Nat → List V → St
  | i :: is, v :: vs => setAll (σ.set i (some v)) is vs
  | _, _ => σ
def storeS (io : List Nat) : List Nat → List R → Rho → Rs Unit
  | i :: is, r :: rs, ρ => (store io i r ρ).bind fun _ ρ1 => storeS io is rs ρ1
  | _, _, ρ => .ok () ρ
theorem storeS_ok {K : PySem.W.Frag} {g0 : Gh} {H0 H : Hp} : ∀ {is : List Nat} {rs : List R} {vs : List V} {g : Gh} {ρ : Rho} {σ : St}, Ext g0 H0 g H → Rel K g ρ σ H → RepSs K H0 g σ H rs vs →
    storeS g0.io is rs ρ = .stuck ∨ ∃ ρ' g', storeS g0.io is rs ρ = .ok () ρ' ∧ Ext g0 H0 g' H ∧ Rel K g' ρ' (setAll σ is vs) H
  | [], rs, vs, g, ρ, σ, x, G, h => .inr ⟨ρ, g, by cases rs <;> rfl, x, by cases vs <;> exact G⟩
  | i :: is, [], vs, g, ρ, σ, x, G, h => by cases h; exact .inr ⟨ρ, g, rfl, x, G⟩
  | i :: is, r :: rs, vs, g, ρ, σ, x, G, h => by
    cases h with
    | @cons _ v _ vs h1 st ap h2 =>
      have go : ∀ {w : W} {o : Option Addr}, RepW K g.Z H w v o → (∀ a, o = some a → g.Z a = none ∧ (∀ j, g.own j ≠ some a) ∧ H0 a = none) → (∀ a, o = some a → v ∉ tmpsV rs vs) → store g0.io i r ρ = putW g0.io i w ρ →
          storeS g0.io (i :: is) (r :: rs) ρ = .stuck ∨ ∃ ρ' g', storeS g0.io (i :: is) (r :: rs) ρ = .ok () ρ' ∧ Ext g0 H0 g' H ∧ Rel K g' ρ' (setAll σ (i :: is) (v :: vs)) H := by
        intro w o rw' hz hap es
        by_cases c : i < ρ.length ∧ i ∉ g0.io
        · have ep : putW g0.io i w ρ = .ok () (ρ.set i (some w)) := if_pos c
          have key : RepSs K H0 ⟨g.Z, fun j => if j = i then o else g.own j, g.io⟩ (σ.set i (some v)) H rs vs := by
            have gen : ∀ {rs : List R} {us : List V}, RepSs K H0 g σ H rs us → (∀ a, o = some a → v ∉ tmpsV rs us) → RepSs K H0 ⟨g.Z, fun j => if j = i then o else g.own j, g.io⟩ (σ.set i (some v)) H rs us := by
              intro rs us hh
              induction hh with
              | nil => intro _; exact .nil
              | @cons r' v' rs' vs' a b c' _ ih =>
                intro hap
                cases r' with
                | place j => exact b.elim
                | val d => exact .cons a trivial (fun w e => nomatch e) (ih hap)
                | tmp w' =>
                  obtain ⟨b', rb, z1, z2, z3⟩ := a
                  refine .cons ⟨b', rb, z1, fun j hj => ?_, z3⟩ trivial c' (ih fun a ea hm => hap a ea (List.mem_cons_of_mem _ hm))
                  have hj : (if j = i then o else g.own j) = some b' := hj
                  split at hj
                  · refine hap b' hj ?_
                    have e1 := rb.own_some.1
                    have e2 : v = .ref b' := by rw [hj] at rw'; exact rw'.own_some.1
                    rw [e1, e2]
                    exact List.mem_cons_self ..
                  · exact z2 j hj
            exact gen h2 hap
          have key2 : Rel K ⟨g.Z, fun j => if j = i then o else g.own j, g.io⟩ (ρ.set i (some w)) (σ.set i (some v)) H ∧ Ext g0 H0 ⟨g.Z, fun j => if j = i then o else g.own j, g.io⟩ H := Rel.put' x G c.1 c.2 rw' hz
          rcases storeS_ok (is := is) key2.2 key2.1 key with e | ⟨ρ', g', e, x', G'⟩
          · exact .inl (by show (store g0.io i r ρ).bind _ = _; rw [es, ep]; exact e)
          · exact .inr ⟨ρ', g', by show (store g0.io i r ρ).bind _ = _; rw [es, ep]; exact e, x', G'⟩
        · have ep : putW g0.io i w ρ = .stuck := if_neg c
          exact .inl (by show (store g0.io i r ρ).bind _ = _; rw [es, ep]; rfl)
      cases r with
      | place j => exact st.elim
      | val d => exact go (w := .dat d) (o := none) ⟨rfl, h1⟩ (fun _ e => nomatch e) (fun _ e => nomatch e) rfl
      | tmp w =>
        obtain ⟨a, rw', z1, z2, z3⟩ := h1
        exact go (w := w) (o := some a) rw' (fun b e => by cases e; exact ⟨z1, z2, z3⟩) (fun _ _ => ap w rfl) rfl
def stPar (io : List Nat) (is : List Nat) (h : Rho → Rs (List R)) (ρ : Rho) : Rs Fl := (h ρ).bind fun rs ρ1 => if rs.length = is.length then un (storeS io is rs ρ1) else .stuck
theorem RepSs.length {K : PySem.W.Frag} {H0 : Hp} {g : Gh} {σ : St} {H : Hp} {rs : List R} {vs : List V} (h : RepSs K H0 g σ H rs vs) : rs.length = vs.length := by
  induction h with
  | nil => rfl
  | cons _ _ _ _ ih => simp [ih]
section
variable {X : Cx} {Wx : WX} {io : List Nat} {h : Rho → Rs (List R)}
theorem t_par {is : List Nat} {E : Ends} {σ : St} {H : Hp} (q : tSt ⟨X.K, Wx, io⟩ (stPar io is h) E σ H) : tSs ⟨X.K, Wx, io⟩ h σ H fun vs H' => vs.length = is.length ∧ E.nx (setAll σ is vs) H' := by
  obtain ⟨ρ, g, hio, G, q⟩ := q
  refine ⟨ρ, g, hio, G, ?_⟩
  unfold stPar at q
  cases e : h ρ with
  | stuck => rw [e] at q; exact q
  | exc cn ns ds ρ' => rw [e] at q; exact fun dx vs H' g' x' G' => q dx vs σ H' g' x' G'
  | ok rs ρ1 =>
    rw [e] at q
    intro vs H1 g1 x1 G1 r1
    have q : PostS ⟨X.K, Wx, io⟩ g σ H E (if rs.length = is.length then un (storeS io is rs ρ1) else .stuck) := q
    by_cases hl : rs.length = is.length
    · rw [if_pos hl] at q
      refine ⟨by rw [← r1.length]; exact hl, ?_⟩
      rcases storeS_ok (is := is) x1 G1 r1 with e | ⟨ρ', g', e, x', G'⟩
      · rw [hio] at e; rw [e] at q; exact q.elim
      · rw [hio] at e; rw [e] at q; exact q _ _ g' x' G'
    · rw [if_neg hl] at q; exact q.elim
theorem SSt_par {i j : Nat} {x y : Str} {a b : Expr} {px py pt pos : Pos} {kt k2 : Nat} {pt2 : Pos} (hc : X.calm = true) (hN : X.N.Nodup) (hi : X.N[i]? = some x) (hj : X.N[j]? = some y) (hij : i ≠ j)
    (hx : X.env.scope.names.lookup x = some .local) (hy : X.env.scope.names.lookup y = some .local) (ha : SSet X Wx io [a, b] h)
    (hw : swappedStores [.Tuple [.Name x px, .Name y py] kt pt] (.Tuple [a, b] k2 pt2) X.env = pure (some [x, y])) (hs : swapsWithSole [.Tuple [.Name x px, .Name y py] kt pt] (.Tuple [a, b] k2 pt2) pos.line X.env = pure false) :
    SSt X Wx io (.Assign [.Tuple [.Name x px, .Name y py] kt pt] (.Tuple [a, b] k2 pt2) pos) (stPar io [i, j] h) := PS.imp (ps_par hc hN hi hj hij hx hy ha hw hs) fun E σ H q => by
  obtain ⟨ρ, g, hio, G, p⟩ := t_par q
  refine ⟨ρ, g, hio, G, p.mono (fun rs ρ' vs H' g' _ x' G' r' k => ?_) (fun _ _ _ _ z => z)⟩
  obtain ⟨l, n⟩ := k r'
  match vs, l with
  | [v, w], _ => exact ⟨v, w, rfl, n⟩
theorem SSt_par3 {i j l : Nat} {x y z : Str} {a b c : Expr} {px py pz pt pos : Pos} {kt k2 : Nat} {pt2 : Pos} (hc : X.calm = true) (hN : X.N.Nodup) (hi : X.N[i]? = some x) (hj : X.N[j]? = some y) (hl : X.N[l]? = some z) (hij : i ≠ j) (hil : i ≠ l) (hjl : j ≠ l)
    (hx : X.env.scope.names.lookup x = some .local) (hy : X.env.scope.names.lookup y = some .local) (hz : X.env.scope.names.lookup z = some .local) (ha : SSet X Wx io [a, b, c] h)
    (hw : swappedStores [.Tuple [.Name x px, .Name y py, .Name z pz] kt pt] (.Tuple [a, b, c] k2 pt2) X.env = pure (some [x, y, z])) (hs : swapsWithSole [.Tuple [.Name x px, .Name y py, .Name z pz] kt pt] (.Tuple [a, b, c] k2 pt2) pos.line X.env = pure false) :
    SSt X Wx io (.Assign [.Tuple [.Name x px, .Name y py, .Name z pz] kt pt] (.Tuple [a, b, c] k2 pt2) pos) (stPar io [i, j, l] h) := PS.imp (ps_par3 hc hN hi hj hl hij hil hjl hx hy hz ha hw hs) fun E σ H q => by
  obtain ⟨ρ, g, hio, G, p⟩ := t_par q
  refine ⟨ρ, g, hio, G, p.mono (fun rs ρ' vs H' g' _ x' G' r' k => ?_) (fun _ _ _ _ z => z)⟩
  obtain ⟨l, n⟩ := k r'
  match vs, l with
  | [u, v, w], _ => exact ⟨u, v, w, rfl, n⟩
end
end Spl

namespace Spl
open PySem PySem.Spec L2
open PyProof.Rows

/-! enumerate of a tuple -/
theorem meets_enumT (l : Addr) (items : Array Value) (n : Nat) (dct : Option Addr) (sl : Array (Option Value)) :
    Meets (Builtin.«enumerate.__new__» ⟨[.type "enumerate", .ref l], []⟩) (fun _ R s => s.heap.get? l = some { cls := .type "tuple", dict := dct, data := .seq items n, slots := sl } ∧
      R (.ok (.ret (.ref (s.heap.push { cls := .type "tuple_iterator", data := .fields #[.ref l, .int 0 0] }).objs.size)))
        { s with heap := (s.heap.push { cls := .type "tuple_iterator", data := .fields #[.ref l, .int 0 0] }).push { cls := .type "enumerate", data := .fields #[.none, .bool false, .ref s.heap.objs.size, rawInt 0, .none, .none] } }) :=
  .of_wp fun prog w A R s h => by
    obtain ⟨hp, g, d, tk, os⟩ := s
    obtain ⟨hl, h⟩ := h
    have hsub := sub_enumerate
    have hL : Heap.IsTuple (Shared.heap ⟨hp, g, d, tk, os⟩) l items := ⟨_, hl, rfl, n, rfl⟩
    wp_walk using AutoSeq1.wpAny_loadPart' hl
    refine wpAny_stack_any fun st => wpAny_pure ?_
    split
    · rename_i c _ _ _ _ _
      cases (c == Value.type "enumerate")
      · wp_walk using AutoSeq1.wpAny_loadPart' hl, wpAny_pyIter_tuple hL
        exact ⟨_, rfl, h⟩
      · wp_walk using AutoSeq1.wpAny_loadPart' hl, wpAny_pyIter_tuple hL
        exact ⟨_, rfl, h⟩
    · wp_walk using AutoSeq1.wpAny_loadPart' hl, wpAny_pyIter_tuple hL
      exact ⟨_, rfl, h⟩
theorem call_enumT {prog : Program} {w : World} {A : Around} {E : Value → Shared → Prop} {s : Shared} {l : Addr} {items : Array Value} {Q : Value → Shared → Prop} (hL : s.heap.IsTuple l items)
    (h : ∀ h', IsEnum h' (s.heap.objs.size + 1) s.heap.objs.size 0 .none → h'.IsTupleIter s.heap.objs.size l 0 → (∀ b o, s.heap.get? b = some o → h'.get? b = some o) → Q (.ref (s.heap.objs.size + 1)) { s with heap := h' }) :
    wpAny (model prog w) A (call (.type "enumerate") [.ref l]) Q E s := by
  obtain ⟨⟨c, dct, dt, sl⟩, hl, hc, n, hd⟩ := hL
  replace hc : c = .type "tuple" := hc
  replace hd : dt = .seq items n := hd
  subst hc hd
  refine callType_new F.called_enumerate (by decide) (F.typeCall_enumerate_1 _) (F.newCall_enumerate_1 _) (fun obj => F.args_object_init_2 obj _) F.entry_enumerate_new (meets_enumT l items n dct sl) ⟨hl, ?_⟩
  have hz : (s.heap.push { cls := .type "tuple_iterator", data := .fields #[.ref l, .int 0 0] }).objs.size = s.heap.objs.size + 1 := Heap.size_push ..
  show _ ∧ _
  rw [hz]
  have he : IsEnum ((s.heap.push { cls := .type "tuple_iterator", data := .fields #[.ref l, .int 0 0] }).push { cls := .type "enumerate", data := .fields #[.none, .bool false, .ref s.heap.objs.size, rawInt 0, .none, .none] }) (s.heap.objs.size + 1) s.heap.objs.size 0 .none := by
    have := Heap.get?_push_size (s.heap.push { cls := .type "tuple_iterator", data := .fields #[.ref l, .int 0 0] }) (o := { cls := .type "enumerate", data := .fields #[.none, .bool false, .ref s.heap.objs.size, rawInt 0, .none, .none] }) rfl
    rw [hz] at this; exact this
  exact ⟨⟨_, he, rfl⟩, h _ he ⟨_, Heap.get?_push_of_some _ (Heap.get?_push_size _ rfl), rfl, rfl⟩ fun b o x => Heap.get?_push_of_some _ (Heap.get?_push_of_some _ x)⟩
theorem pyNext_enumT_end {prog : Program} {w : World} {A : Around} {E : Value → Shared → Prop} {s : Shared} {e it l : Addr} {i : Nat} {items : Array Value} {old : Value} {Q : Option Value → Shared → Prop} (hh : A.handled = none)
    (he : IsEnum s.heap e it i old) (hit : s.heap.IsTupleIter it l i) (hl : s.heap.IsTuple l items) (hx : items[i]? = none)
    (hQ : ∀ h', Heap.ExtBut it s.heap h' → Q none { s with heap := h' }) : wpAny (model prog w) A (pyNext (.ref e)) Q E s := by
  have hT : s.TypeIs (.ref e) "enumerate" := ⟨_, he, rfl⟩
  unfold pyNext
  refine wpAny_bind (wpAny_attempt (wpAny_callSpecial?_slot (name := Str.ofString "__next__") hT F.slot_enumerate_next
    (wpAny_call_entry F.slot_enumerate_next hT F.entry_enumerate_next ?_ (F.args_enumerate_next_1 _))))
  show wpAny _ _ (field (.ref e) 2 >>= _) _ _ _
  refine wpAny_bind (wpAny_field he rfl (x := .ref it) rfl ?_)
  refine wpAny_bind (wpAny_nextOf_tuple_end hh hit hl hx fun h' x he' hx' => ?_)
  obtain ⟨o, ho, hc⟩ := hx'
  refine wpAny_bind (wpAny_isInstance (T := "StopIteration") (b := true) ⟨o, ho, hc⟩ isSubtype_stop ?_)
  exact wpAny_pure (hQ _ he')
/-- the tuple at a as it stands at each turn, each item in a new pair -/
def IteT (K : PySem.W.Frag) (a : Addr) : It :=
  ⟨fun i H => ∃ (xs : List V) (x : V), SqT K H a xs ∧ xs[i]? = some x, fun i H v H' => ∃ T x, v = .ref T ∧ H T = none ∧ H' = upd H T (.tup [.int (i : Nat), x]) ∧ ∀ xs, SqT K H a xs → xs[i]? = some x, fun i H => ∃ xs : List V, SqT K H a xs ∧ xs.length ≤ i⟩
theorem turn_enumT {P : Program} {w : World} {K : PySem.W.Frag} {elts : List Expr} {kk : Nat} {tpos : Pos} (a e it : Addr) :
    Turn P w K (.Tuple elts kk tpos) (IteT K a) [e, it] e (fun i h => (∃ old, IsEnum h e it ((i : Nat) : Int) old) ∧ h.IsTupleIter it a i ∧ e ≠ it) where
  mem := by simp
  obj := fun i h st b hb => by
    obtain ⟨⟨old, he⟩, ⟨o, ho, hc, hd⟩, _⟩ := st
    have e' : b = e ∨ b = it := by simpa using hb
    rcases e' with z | z
    · rw [z]; exact ⟨_, he, fun v q => nomatch q⟩
    · rw [z]; exact ⟨o, ho, fun v q => by rw [hd] at q; cases q⟩
  keep := fun i h h' st k => let ⟨⟨old, he⟩, hi, hne⟩ := st; ⟨⟨old, k e (by simp) _ he⟩, hi.at fun o q => k it (by simp) o q, hne⟩
  item := by
    intro X hP hw hK hc i pins s σ H E I hf st hg
    subst hP hw hK
    obtain ⟨⟨old, he⟩, hit, hne⟩ := st
    obtain ⟨xs, x, hq, hx⟩ := hg
    obtain ⟨its, rv, p, hz⟩ := I.tuple hq
    obtain ⟨u, hu, ru⟩ := rv.get hx
    have hel : e < s.heap.objs.size := Heap.lt_size he
    have hil : it < s.heap.objs.size := by obtain ⟨_, q, _⟩ := hit; exact Heap.lt_size q
    have pT : s.heap.IsTuple a its.toArray := p
    by_cases hea : e = a
    · exfalso
      obtain ⟨o, ho, hcl, _⟩ := pT
      rw [← hea, he] at ho
      cases ho
      exact absurd (Value.type.inj hcl) (by decide)
    by_cases hia : a = it
    · exfalso
      obtain ⟨o, ho, hcl, _⟩ := pT
      obtain ⟨o2, ho2, hcl2, _⟩ := hit
      rw [hia, ho2] at ho
      cases ho
      rw [hcl2] at hcl
      exact absurd (Value.type.inj hcl) (by decide)
    have hi' : i < its.length := (List.getElem?_eq_some_iff.mp hu).1
    refine wpAny_pyNext_enum_itemD (Draws.tuple (A := X.A.in1) (I.ok.hd hc) it a hia its.toArray) he ⟨hit, pT⟩ (by simpa using hi') hne (by simp [hne, hea]) fun y h' tk hy ho st' hT hsz hk => ?_
    have ey : y = u := by
      have hy : its.toArray[i]? = some y := hy
      rw [List.getElem?_toArray, hu] at hy
      exact (Option.some.inj hy).symm
    subst ey
    refine ⟨_, rfl, wpAny_letOwnedTupleGo_enum (s := { s with heap := h', toks := tk + 1 }) ho fun h'' he' sb => ?_⟩
    have hT2 : h''.get? s.heap.objs.size = some { cls := .type "tuple", data := .seq #[.int i tk, y] } := (sb.2 _ (Nat.ne_of_gt hel)).trans hT
    have new : ObjOk X.prog X.w (upd H s.heap.objs.size (.tup [.int (i : Nat), x])) h'' s.heap.objs.size (.tup [.int (i : Nat), x]) :=
      ⟨by show 2 ≤ sizeLine; decide, [.int i tk, y], .cons ⟨_, rfl⟩ (.cons ru .nil), ⟨_, hT2, rfl, _, rfl⟩⟩
    have I1 : Inv X pins σ (upd H s.heap.objs.size (.tup [.int (i : Nat), x])) { s with heap := h'', toks := tk + 1 } :=
      I.turnedNew (ch := [e, it]) (fun b ob hb q => (sb.2 b (fun z => hb (by simp [z]))).trans (hk b ob (fun z => hb (by simp [z])) (fun z => hb (by simp [z])) q)) hf (Nat.le_refl _) new
    refine ⟨.ref s.heap.objs.size, _, I1, rfl, ⟨_, x, rfl, I.hok.fresh (Nat.le_refl _), rfl, fun ys hy => by rw [I.tuple_inj hy hq]; exact hx⟩, ⟨⟨y, ?_⟩, st'.1.at fun o q => (sb.2 it (Ne.symm hne)).trans q, hne⟩, fun b hb => ?_⟩
    · have e1 : ((i + 1 : Nat) : Int) = (i : Int) + 1 := by omega
      rw [e1]; exact he'
    · have hb' : b < s.heap.objs.size := by
        have e' : b = e ∨ b = it := by simpa using hb
        rcases e' with z | z
        · rw [z]; exact hel
        · rw [z]; exact hil
      rw [upd_ne (Nat.ne_of_lt hb')]
      exact (hf b hb).1
  done := by
    intro X hP hw hK hc i pins s σ H E I hf st hg
    subst hP hw hK
    obtain ⟨⟨old, he⟩, hit, hne⟩ := st
    obtain ⟨xs, hq, hx⟩ := hg
    obtain ⟨its, rv, p, hz⟩ := I.tuple hq
    obtain ⟨f0, f1, f2, f3, f4, f5⟩ := hf it (by simp)
    have hl := rv.length
    exact pyNext_enumT_end (I.ok.hd hc) he hit p (by simp; omega) fun h' eb => ⟨rfl, I.turned (t' := s.toks) (fun b o hb q => eb b o hb q) f0 f1 f3 f4 f5⟩
  self := fun A i s Q E st h => let ⟨⟨_, he⟩, _⟩ := st; wpAny_pyIter_enum he h

def iEnumT (K : PySem.W.Frag) (ta : TA) : TI := fun σ H R => ta σ H fun vs H1 => ∃ a xs, vs = [.ref a] ∧ SqT K H1 a xs ∧ R (IteT K a) H1
theorem pi_enumT {X : Cx} {e : Expr} {ta : TA} {p pos tpos : Pos} {elts : List Expr} {kk : Nat} (hg : Gl X "enumerate") (hm : X.mg "enumerate" = none) (ha : PA X [e] ta) (hs : starEach [e] X.env = [(false, eval e X.env)]) :
    PI X (.Tuple elts kk tpos) (.Call (.Name "enumerate" p) [e] [] pos) (iEnumT X.K ta) := by
  refine ⟨fun pins s σ H R I h => ?_⟩
  refine Call_ (ld_blt I hg hm boot_enumerate (callWith_type1 (thn (ha.run pos pins s σ H _ I h) fun us s1 ⟨vs, H1, I1, r1, q1⟩ => ?_) hs rfl))
  obtain ⟨a, xs, ex, hq, q⟩ := q1
  subst ex
  cases r1 with
  | cons r rr =>
    cases rr
    cases r
    obtain ⟨its, rv, p', hz⟩ := I1.tuple hq
    refine call_enumT p' fun h' he hit hk => wpAny_pyIter_enum he ?_
    have I2 : Inv X pins σ H1 { s1 with heap := h' } := I1.kept (t' := s1.toks) hk
    refine ⟨s1.heap.objs.size + 1, [s1.heap.objs.size + 1, s1.heap.objs.size], _, _, H1, rfl, I2, turn_enumT a (s1.heap.objs.size + 1) s1.heap.objs.size, ⟨⟨.none, he⟩, hit, Nat.succ_ne_self _⟩, fun b hb => ?_, q⟩
    have e' : b = s1.heap.objs.size + 1 ∨ b = s1.heap.objs.size := by simpa using hb
    have hle : s1.heap.objs.size ≤ b := by
      rcases e' with z | z
      · rw [z]; exact Nat.le_add_right _ _
      · rw [z]; exact Nat.le_refl _
    exact I1.fpOk hle (I1.hok.fresh hle)
/-! walks that lay pairs -/
def enumFrom : Nat → List D → List D
  | _, [] => []
  | i, d :: ds => .tup [.int (i : Nat), d] :: enumFrom (i + 1) ds
theorem enumFrom_len : ∀ (i : Nat) (ds : List D), (enumFrom i ds).length = ds.length
  | _, [] => rfl
  | i, d :: ds => by rw [enumFrom, List.length_cons, List.length_cons, enumFrom_len]
theorem enumFrom_get : ∀ (i : Nat) (ds : List D) (k : Nat) (d : D), (enumFrom i ds)[k]? = some d → ∃ e, ds[k]? = some e ∧ d = .tup [.int ((i + k : Nat) : Int), e]
  | _, [], k, d, h => by simp [enumFrom] at h
  | i, x :: ds, 0, d, h => by rw [enumFrom] at h; simp at h; exact ⟨x, rfl, by rw [← h]; simp⟩
  | i, x :: ds, k + 1, d, h => by
    rw [enumFrom] at h
    obtain ⟨e, h1, h2⟩ := enumFrom_get (i + 1) ds k d (by simpa using h)
    refine ⟨e, by simpa using h1, ?_⟩
    rw [h2]
    congr 3
    omega
def zipD : List D → List D → List D
  | x :: xs, y :: ys => .tup [x, y] :: zipD xs ys
  | _, _ => []
theorem zipD_len : ∀ (xs ys : List D), (zipD xs ys).length = min xs.length ys.length
  | [], ys => by simp [zipD]
  | x :: xs, [] => by simp [zipD]
  | x :: xs, y :: ys => by rw [zipD, List.length_cons, zipD_len]; simp
theorem zipD_get : ∀ (xs ys : List D) (k : Nat) (d : D), (zipD xs ys)[k]? = some d → ∃ x y, xs[k]? = some x ∧ ys[k]? = some y ∧ d = .tup [x, y]
  | [], ys, k, d, h => by simp [zipD] at h
  | x :: xs, [], k, d, h => by simp [zipD] at h
  | x :: xs, y :: ys, 0, d, h => by rw [zipD] at h; simp at h; exact ⟨x, y, rfl, rfl, h.symm⟩
  | x :: xs, y :: ys, k + 1, d, h => by
    rw [zipD] at h
    obtain ⟨a, b, h1, h2, h3⟩ := zipD_get xs ys k d (by simpa using h)
    exact ⟨a, b, by simpa using h1, by simpa using h2, h3⟩
theorem pair_new {K : PySem.W.Frag} {Z H : Hp} {T : Addr} {d e : D} {v u : V} (s : Sub Z H) (hT : H T = none) (r : RepD K Z d v) (q : RepD K Z e u) : ∃ Z', NewOk Z H Z' (upd H T (.tup [v, u])) ∧ RepD K Z' (.tup [d, e]) (.ref T) :=
  ⟨_, NewOk.frozen s hT, RepN.tup s hT (.cons r (.cons q .nil))⟩
theorem Walk.enumT {K : PySem.W.Frag} {g : Gh} {H : Hp} {a : Addr} {vs : List V} {xs : List D} (h : ∀ g' H', Ext g H g' H' → Sub g'.Z H' → SqT K H' a vs) (r : RepL K g.Z xs vs) : Walk K g H (IteT K a) (enumFrom 0 xs) where
  go := fun i g' H' x s hi => by
    rw [enumFrom_len, r.length] at hi
    exact ⟨vs, vs[i], h g' H' x s, List.getElem?_eq_getElem hi⟩
  yld := fun i g' H' y H'' d x s hd ⟨T, u, ey, hT, eH, q⟩ => by
    subst ey eH
    obtain ⟨e, he, rfl⟩ := enumFrom_get 0 xs i d hd
    obtain ⟨v, hv, rv⟩ := r.get he
    have hu := q vs (h g' _ x s)
    rw [hv] at hu
    cases hu
    have e0 : (0 + i : Nat) = i := Nat.zero_add i
    rw [e0]
    exact pair_new s hT repI (rv.sub (.of x.z))
  stop := fun g' H' x s => ⟨vs, h g' H' x s, by rw [enumFrom_len, r.length]; exact Nat.le_refl _⟩
theorem Walk.enumL {K : PySem.W.Frag} {g : Gh} {H : Hp} {a : Addr} {vs : List V} {xs : List D} (h : ∀ g' H', Ext g H g' H' → Sub g'.Z H' → SqL K H' a vs) (r : RepL K g.Z xs vs) : Walk K g H (Ite K a) (enumFrom 0 xs) where
  go := fun i g' H' x s hi => by
    rw [enumFrom_len, r.length] at hi
    exact ⟨vs, vs[i], h g' H' x s, List.getElem?_eq_getElem hi⟩
  yld := fun i g' H' y H'' d x s hd ⟨T, u, ey, hT, eH, q⟩ => by
    subst ey eH
    obtain ⟨e, he, rfl⟩ := enumFrom_get 0 xs i d hd
    obtain ⟨v, hv, rv⟩ := r.get he
    have hu := q vs (h g' _ x s)
    rw [hv] at hu
    cases hu
    have e0 : (0 + i : Nat) = i := Nat.zero_add i
    rw [e0]
    exact pair_new s hT repI (rv.sub (.of x.z))
  stop := fun g' H' x s => ⟨vs, h g' H' x s, by rw [enumFrom_len, r.length]; exact Nat.le_refl _⟩
theorem Walk.zipT {K : PySem.W.Frag} {g : Gh} {H : Hp} {a b : Addr} {vs us : List V} {xs ys : List D} (h : ∀ g' H', Ext g H g' H' → Sub g'.Z H' → SqT K H' a vs) (r : RepL K g.Z xs vs) (h2 : ∀ g' H', Ext g H g' H' → Sub g'.Z H' → SqT K H' b us) (r2 : RepL K g.Z ys us) : Walk K g H (RZ.ItzT K a b) (zipD xs ys) where
  go := fun i g' H' x s hi => by
    rw [zipD_len, r.length, r2.length] at hi
    have i1 : i < vs.length := by omega
    have i2 : i < us.length := by omega
    exact ⟨vs, us, vs[i], us[i], h g' H' x s, h2 g' H' x s, List.getElem?_eq_getElem i1, List.getElem?_eq_getElem i2⟩
  yld := fun i g' H' y H'' d x s hd ⟨T, u1, u2, ey, hT, eH, q1, q2⟩ => by
    subst ey eH
    obtain ⟨e1, e2, he1, he2, rfl⟩ := zipD_get xs ys i d hd
    obtain ⟨v, hv, rv⟩ := r.get he1
    obtain ⟨v2, hv2, rv2⟩ := r2.get he2
    have hu := q1 vs (h g' _ x s)
    rw [hv] at hu
    cases hu
    have hu2 := q2 us (h2 g' _ x s)
    rw [hv2] at hu2
    cases hu2
    exact pair_new s hT (rv.sub (.of x.z)) (rv2.sub (.of x.z))
  stop := fun g' H' x s => ⟨vs, us, h g' H' x s, h2 g' H' x s, by rw [zipD_len, r.length, r2.length]; omega⟩
theorem Walk.zipL {K : PySem.W.Frag} {g : Gh} {H : Hp} {a b : Addr} {vs us : List V} {xs ys : List D} (h : ∀ g' H', Ext g H g' H' → Sub g'.Z H' → SqL K H' a vs) (r : RepL K g.Z xs vs) (h2 : ∀ g' H', Ext g H g' H' → Sub g'.Z H' → SqL K H' b us) (r2 : RepL K g.Z ys us) : Walk K g H (Itz K a b) (zipD xs ys) where
  go := fun i g' H' x s hi => by
    rw [zipD_len, r.length, r2.length] at hi
    have i1 : i < vs.length := by omega
    have i2 : i < us.length := by omega
    exact ⟨vs, us, vs[i], us[i], h g' H' x s, h2 g' H' x s, List.getElem?_eq_getElem i1, List.getElem?_eq_getElem i2⟩
  yld := fun i g' H' y H'' d x s hd ⟨T, u1, u2, ey, hT, eH, q1, q2⟩ => by
    subst ey eH
    obtain ⟨e1, e2, he1, he2, rfl⟩ := zipD_get xs ys i d hd
    obtain ⟨v, hv, rv⟩ := r.get he1
    obtain ⟨v2, hv2, rv2⟩ := r2.get he2
    have hu := q1 vs (h g' _ x s)
    rw [hv] at hu
    cases hu
    have hu2 := q2 us (h2 g' _ x s)
    rw [hv2] at hu2
    cases hu2
    exact pair_new s hT (rv.sub (.of x.z)) (rv2.sub (.of x.z))
  stop := fun g' H' x s => ⟨vs, us, h g' H' x s, h2 g' H' x s, by rw [zipD_len, r.length, r2.length]; omega⟩
/-- a frozen sequence, list or tuple -/
theorem RepD.seq {K : PySem.W.Frag} {Z : Hp} {d : D} {v : V} {xs : List D} (r : RepD K Z d v) (e : d.items = some xs) : ∃ a vs, v = .ref a ∧ RepL K Z xs vs ∧ (if d.isTup = true then ∀ H, Sub Z H → SqT K H a vs else ∀ H, Sub Z H → SqL K H a vs) := by
  cases d with
  | tup ys =>
    cases e
    unfold RepD at r
    obtain ⟨a, vs, e1, q, r⟩ := r
    exact ⟨a, vs, e1, r, fun H s => s.sqT q⟩
  | lst ys =>
    cases e
    unfold RepD at r
    obtain ⟨a, vs, e1, q, r⟩ := r
    exact ⟨a, vs, e1, r, fun H s => .of (s.lst q)⟩
  | scr ns =>
    cases e
    unfold RepD at r
    obtain ⟨a, e1, q⟩ := r
    exact ⟨a, _, e1, RepL.intsOf, fun H s => s.sqL q⟩
  | _ => cases e
def itEnum (k : Bool) (h : Rho → Rs (List D)) (ρ : Rho) : Rs (List D) := (h ρ).bind fun ds ρ1 => match ds with
  | [d] => if d.isTup = k then (opt d.items ρ1).bind fun xs ρ2 => .ok (enumFrom 0 xs) ρ2 else .stuck
  | _ => .stuck
def itZip (h : Rho → Rs (List D)) (ρ : Rho) : Rs (List D) := (h ρ).bind fun ds ρ1 => match ds with
  | [d, e] => if d.isTup = e.isTup then (opt d.items ρ1).bind fun xs ρ2 => (opt e.items ρ2).bind fun ys ρ3 => .ok (zipD xs ys) ρ3 else .stuck
  | _ => .stuck
section
variable {X : Cx} {Wx : WX} {io : List Nat} {e e2 : Expr} {h : Rho → Rs (List D)} {p pos tpos : Pos} {elts : List Expr} {kk : Nat}
theorem SI_enumT (hg : Gl X "enumerate") (hm : X.mg "enumerate" = none) (ha : SL X Wx io [e] h) (hs : starEach [e] X.env = [(false, eval e X.env)]) : SI X Wx io (.Tuple elts kk tpos) (.Call (.Name "enumerate" p) [e] [] pos) (itEnum true h) :=
  PI.imp (pi_enumT hg hm ha hs) fun σ H Q ⟨ρ, g, hio, G, q⟩ => by
    refine tL.bind (c := ⟨X.K, Wx, io⟩) hio (.refl g H) G q fun ds ρ1 g1 vs H1 _ x1 G1 r1 p1 => ?_
    match ds, p1, r1 with
    | [d], p1, r1 =>
      unfold RepL at r1
      obtain ⟨v, t, rfl, rd, rt⟩ := r1
      unfold RepL at rt
      subst rt
      have p1 : Post ⟨X.K, Wx, io⟩ g σ H (repWk ⟨X.K, Wx, io⟩) Q (if d.isTup = true then (opt d.items ρ1).bind fun xs ρ2 => .ok (enumFrom 0 xs) ρ2 else .stuck) := p1
      by_cases ht : d.isTup = true
      · rw [if_pos ht] at p1
        obtain ⟨xs, hx, p2⟩ := p1.optb
        obtain ⟨a, us, ev, rl, sq⟩ := rd.seq hx
        rw [if_pos ht] at sq
        subst ev
        exact ⟨a, us, rfl, sq _ G1.sub, p2 _ H1 g1 x1 G1 (Walk.enumT (fun g' H' x s => sq H' (.trans x.z s)) rl)⟩
      · rw [if_neg ht] at p1; exact p1.elim
    | [], p1, r1 => exact p1.elim
    | _ :: _ :: _, p1, r1 => exact p1.elim
theorem SI_enumL (hg : Gl X "enumerate") (hm : X.mg "enumerate" = none) (ha : SL X Wx io [e] h) (hs : starEach [e] X.env = [(false, eval e X.env)]) : SI X Wx io (.Tuple elts kk tpos) (.Call (.Name "enumerate" p) [e] [] pos) (itEnum false h) :=
  PI.imp (pi_enum hg hm ha hs) fun σ H Q ⟨ρ, g, hio, G, q⟩ => by
    refine tL.bind (c := ⟨X.K, Wx, io⟩) hio (.refl g H) G q fun ds ρ1 g1 vs H1 _ x1 G1 r1 p1 => ?_
    match ds, p1, r1 with
    | [d], p1, r1 =>
      unfold RepL at r1
      obtain ⟨v, t, rfl, rd, rt⟩ := r1
      unfold RepL at rt
      subst rt
      have p1 : Post ⟨X.K, Wx, io⟩ g σ H (repWk ⟨X.K, Wx, io⟩) Q (if d.isTup = false then (opt d.items ρ1).bind fun xs ρ2 => .ok (enumFrom 0 xs) ρ2 else .stuck) := p1
      by_cases ht : d.isTup = false
      · rw [if_pos ht] at p1
        obtain ⟨xs, hx, p2⟩ := p1.optb
        obtain ⟨a, us, ev, rl, sq⟩ := rd.seq hx
        rw [if_neg (by rw [ht]; decide)] at sq
        subst ev
        exact ⟨a, us, rfl, sq _ G1.sub, p2 _ H1 g1 x1 G1 (Walk.enumL (fun g' H' x s => sq H' (.trans x.z s)) rl)⟩
      · rw [if_neg ht] at p1; exact p1.elim
    | [], p1, r1 => exact p1.elim
    | _ :: _ :: _, p1, r1 => exact p1.elim
theorem SI_zip (hg : Gl X "zip") (hm : X.mg "zip" = none) (ha : SL X Wx io [e, e2] h) (hs : starEach [e, e2] X.env = (false, eval e X.env) :: starEach [e2] X.env) (hpl : (backTo pos (starEach [e2] X.env)).any (·.1) = false) :
    SI X Wx io (.Tuple elts kk tpos) (.Call (.Name "zip" p) [e, e2] [] pos) (itZip h) :=
  PI.imp (RZ.pi_zipA hg hm ha hs hpl) fun σ H Q ⟨ρ, g, hio, G, q⟩ => by
    refine tL.bind (c := ⟨X.K, Wx, io⟩) hio (.refl g H) G q fun ds ρ1 g1 vs H1 _ x1 G1 r1 p1 => ?_
    match ds, p1, r1 with
    | [d, f], p1, r1 =>
      unfold RepL at r1
      obtain ⟨v, t, rfl, rd, rt⟩ := r1
      unfold RepL at rt
      obtain ⟨v2, t2, rfl, rd2, rt2⟩ := rt
      unfold RepL at rt2
      subst rt2
      have p1 : Post ⟨X.K, Wx, io⟩ g σ H (repWk ⟨X.K, Wx, io⟩) Q (if d.isTup = f.isTup then (opt d.items ρ1).bind fun xs ρ2 => (opt f.items ρ2).bind fun ys ρ3 => .ok (zipD xs ys) ρ3 else .stuck) := p1
      by_cases ht : d.isTup = f.isTup
      · rw [if_pos ht] at p1
        obtain ⟨xs, hx, p2⟩ := p1.optb
        obtain ⟨ys, hy, p3⟩ := p2.optb
        obtain ⟨a, us, ev, rl, sq⟩ := rd.seq hx
        obtain ⟨b, ws, ev2, rl2, sq2⟩ := rd2.seq hy
        subst ev ev2
        by_cases hd : d.isTup = true
        · rw [if_pos hd] at sq
          rw [if_pos (ht ▸ hd)] at sq2
          exact ⟨a, b, us, ws, rfl, .inr ⟨sq _ G1.sub, sq2 _ G1.sub, p3 _ H1 g1 x1 G1 (Walk.zipT (fun g' H' x s => sq H' (.trans x.z s)) rl (fun g' H' x s => sq2 H' (.trans x.z s)) rl2)⟩⟩
        · rw [if_neg hd] at sq
          rw [if_neg (ht ▸ hd)] at sq2
          exact ⟨a, b, us, ws, rfl, .inl ⟨sq _ G1.sub, sq2 _ G1.sub, p3 _ H1 g1 x1 G1 (Walk.zipL (fun g' H' x s => sq H' (.trans x.z s)) rl (fun g' H' x s => sq2 H' (.trans x.z s)) rl2)⟩⟩
      · rw [if_neg ht] at p1; exact p1.elim
    | [], p1, r1 => exact p1.elim
    | [_], p1, r1 => exact p1.elim
    | _ :: _ :: _ :: _, p1, r1 => exact p1.elim
end
end Spl

namespace Spl
open PySem PySem.Spec L2

/-! dicts, keys numbers and texts -/
def keyD : D → Option KK
  | .int i => some (.inl (.inl i))
  | .str x => some (.inl (.inr x))
  | _ => none
def dlook : List KK → List D → KK → Option D
  | k :: ks, d :: ds, q => if k = q then some d else dlook ks ds q
  | _, _, _ => none
def dput : List KK → List D → KK → D → List KK × List D
  | k :: ks, d :: ds, q, e => if k = q then (k :: ks, e :: ds) else ((k :: (dput ks ds q e).1), (d :: (dput ks ds q e).2))
  | _, _, q, e => ([q], [e])
theorem dlook_val {K : PySem.W.Frag} {Z : Hp} {k : Key} : ∀ {kk : List Key} {ds : List D} {vs : List V}, RepL K Z ds vs → kk.length = vs.length →
    (∀ d, dlook (kk.map Sum.inl) ds (.inl k) = some d → ∃ v, valV (kk.zip vs) k = some v ∧ RepD K Z d v) ∧ (dlook (kk.map Sum.inl) ds (.inl k) = none → valV (kk.zip vs) k = none)
  | [], ds, vs, r, hl => ⟨fun d h => by simp [dlook] at h, fun _ => rfl⟩
  | q :: kk, [], vs, r, hl => by unfold RepL at r; subst r; simp at hl
  | q :: kk, d :: ds, vs, r, hl => by
    unfold RepL at r
    obtain ⟨v, t, rfl, r1, r2⟩ := r
    have ih := dlook_val (k := k) (kk := kk) r2 (by simpa using hl)
    rw [List.map_cons, List.zip_cons_cons]
    by_cases e : q = k
    · subst e
      refine ⟨fun d' h => ?_, fun h => ?_⟩
      · rw [dlook, if_pos rfl] at h
        cases h
        exact ⟨v, valV_pos (p := (q, v)) rfl, r1⟩
      · rw [dlook, if_pos rfl] at h; cases h
    · have e2 : ¬ ((Sum.inl q : KK) = Sum.inl k) := fun z => e (Sum.inl.inj z)
      refine ⟨fun d' h => ?_, fun h => ?_⟩
      · rw [dlook, if_neg e2] at h
        rw [valV_neg (p := (q, v)) e]
        exact ih.1 d' h
      · rw [dlook, if_neg e2] at h
        rw [valV_neg (p := (q, v)) e]
        exact ih.2 h
/-- the same at the values -/
def vput : List Key → List V → Key → V → List Key × List V
  | k :: ks, d :: ds, q, e => if k = q then (k :: ks, e :: ds) else ((k :: (vput ks ds q e).1), (d :: (vput ks ds q e).2))
  | _, _, q, e => ([q], [e])
theorem vput_len : ∀ {kk : List Key} {vs : List V} {k : Key} {v : V}, kk.length = vs.length → (vput kk vs k v).1.length = (vput kk vs k v).2.length
  | [], vs, k, v, h => by simp [vput]
  | q :: kk, [], k, v, h => by simp at h
  | q :: kk, u :: vs, k, v, h => by
    rw [vput]
    by_cases e : q = k
    · rw [if_pos e]; simpa using h
    · rw [if_neg e]
      simp [vput_len (kk := kk) (vs := vs) (k := k) (v := v) (by simpa using h)]
theorem vput_keys : ∀ {kk : List Key} {vs : List V} {k : Key} {v : V}, kk.length = vs.length → (∀ x, x ∈ (vput kk vs k v).1 ↔ x ∈ kk ∨ x = k) ∧ (kk.Nodup → (vput kk vs k v).1.Nodup)
  | [], vs, k, v, h => by simp [vput]
  | q :: kk, [], k, v, h => by simp at h
  | q :: kk, u :: vs, k, v, h => by
    have ih := vput_keys (kk := kk) (vs := vs) (k := k) (v := v) (by simpa using h)
    rw [vput]
    by_cases e : q = k
    · rw [if_pos e]
      refine ⟨fun x => ⟨fun h => .inl h, fun h => h.elim id fun z => by rw [z, e]; exact List.mem_cons_self ..⟩, fun h => h⟩
    · rw [if_neg e]
      refine ⟨fun x => ?_, fun nd => ?_⟩
      · show x ∈ q :: _ ↔ _
        rw [List.mem_cons, ih.1, List.mem_cons, or_assoc]
      · rw [List.nodup_cons] at nd
        show (q :: (vput kk vs k v).1).Nodup
        rw [List.nodup_cons]
        refine ⟨fun hm => ?_, ih.2 nd.2⟩
        rcases (ih.1 q).mp hm with z | z
        · exact nd.1 z
        · exact e z
theorem putK_zip : ∀ {kk : List Key} {vs : List V} {k : Key} {v : V}, kk.length = vs.length → kk.Nodup → putK (kk.zip vs) k v = (vput kk vs k v).1.zip (vput kk vs k v).2
  | [], vs, k, v, h, _ => by simp [vput, putK]
  | q :: kk, [], k, v, h, _ => by simp at h
  | q :: kk, u :: vs, k, v, h, nd => by
    rw [List.nodup_cons] at nd
    have hl : kk.length = vs.length := by simpa using h
    have ih := putK_zip (k := k) (v := v) hl nd.2
    rw [vput, List.zip_cons_cons]
    by_cases e : q = k
    · rw [if_pos e]
      subst e
      unfold putK
      rw [if_pos (by simp)]
      rw [List.map_cons, if_pos rfl]
      show (q, v) :: _ = (q, v) :: kk.zip vs
      congr 1
      refine (List.map_congr_left fun p hp => ?_).trans (List.map_id _)
      have hq : p.1 ≠ q := fun z => nd.1 (by rw [← z]; exact (List.of_mem_zip hp).1)
      rw [if_neg hq]; rfl
    · rw [if_neg e]
      show _ = (q, u) :: (vput kk vs k v).1.zip (vput kk vs k v).2
      rw [← ih]
      unfold putK
      by_cases hm : ((kk.zip vs).any fun kv => decide (kv.1 = k)) = true
      · rw [if_pos (by rw [List.any_cons, hm, Bool.or_true]), if_pos hm, List.map_cons, if_neg e]
      · rw [if_neg (by rw [List.any_cons, decide_eq_false e, Bool.false_or]; exact hm), if_neg hm, List.cons_append]
theorem dput_rep {K : PySem.W.Frag} {Z : Hp} {k : Key} {d : D} {v : V} (rd : RepD K Z d v) : ∀ {kk : List Key} {ds : List D} {vs : List V}, RepL K Z ds vs → kk.length = vs.length →
    (dput (kk.map Sum.inl) ds (.inl k) d).1 = (vput kk vs k v).1.map Sum.inl ∧ RepL K Z (dput (kk.map Sum.inl) ds (.inl k) d).2 (vput kk vs k v).2
  | [], ds, vs, r, hl => by
    have ev : vs = [] := List.length_eq_zero_iff.mp hl.symm
    subst ev
    exact ⟨by simp [dput, vput], by simp only [dput, vput, List.map_nil]; exact .cons rd .nil⟩
  | q :: kk, [], vs, r, hl => by unfold RepL at r; subst r; simp at hl
  | q :: kk, e :: ds, vs, r, hl => by
    unfold RepL at r
    obtain ⟨u, t, rfl, r1, r2⟩ := r
    have ih := dput_rep (k := k) rd (kk := kk) r2 (by simpa using hl)
    rw [List.map_cons, dput, vput]
    by_cases z : q = k
    · subst z
      rw [if_pos rfl, if_pos rfl]
      exact ⟨rfl, .cons rd r2⟩
    · rw [if_neg (fun w => z (Sum.inl.inj w)), if_neg z]
      exact ⟨by rw [List.map_cons, ← ih.1], .cons r1 ih.2⟩
theorem keyD_rep {K : PySem.W.Frag} {Z H : Hp} {d : D} {v : V} {k : KK} (u : RepU K Z H d v) (e : keyD d = some k) : ∃ q : Key, k = .inl q ∧ v = kV q := by
  cases d with
  | int i => cases e; exact ⟨.inl i, rfl, u⟩
  | str x => cases e; exact ⟨.inr x, rfl, u⟩
  | _ => cases e
theorem inl_inj {kk ll : List Key} (h : kk.map (Sum.inl : Key → KK) = ll.map Sum.inl) : kk = ll := by
  have f : Function.Injective (Sum.inl : Key → KK) := fun a b z => Sum.inl.inj z
  exact (List.map_inj_right fun a b z => Sum.inl.inj z).mp h
theorem nodup_inl {kk : List Key} (h : (kk.map (Sum.inl : Key → KK)).Nodup) : kk.Nodup := by
  rw [List.Nodup, List.pairwise_map] at h
  exact h.imp fun {a b} z e => z (congrArg _ e)
theorem nodup_inl' {kk : List Key} (h : kk.Nodup) : (kk.map (Sum.inl : Key → KK)).Nodup := by
  rw [List.Nodup, List.pairwise_map]
  exact h.imp fun {a b} z e => z (Sum.inl.inj e)
def allInl : List KK → Bool
  | [] => true
  | .inl _ :: r => allInl r
  | .inr _ :: _ => false
theorem allInl_map : ∀ {ks : List KK}, allInl ks = true → ∃ kk : List Key, ks = kk.map Sum.inl
  | [], _ => ⟨[], rfl⟩
  | .inl k :: r, h => by
    obtain ⟨kk, e⟩ := allInl_map (ks := r) h
    exact ⟨k :: kk, by rw [e]; rfl⟩
  | .inr k :: r, h => by cases h
/-- a dict with plain keys -/
theorem DicIs.plain {H : Hp} {a : Addr} {ks : List KK} {vs : List V} (h : DicIs H a ks vs) (ha : allInl ks = true) : ∃ kk : List Key, ks = kk.map Sum.inl ∧ kk.length = vs.length ∧ kk.Nodup ∧ Rd H a (.dK (kk.zip vs)) := by
  obtain ⟨h1, h2, h3⟩ := h
  rcases h3 with ⟨kk, e, r⟩ | ⟨kk, e, r⟩
  · subst e
    exact ⟨kk, rfl, by simpa using h1, nodup_inl h2, r⟩
  · obtain ⟨e, ne⟩ := e
    subst e
    cases kk with
    | nil => exact absurd rfl ne
    | cons k kk => cases ha
/-- d[k], items of sequences besides -/
def ixDD : D → D → Option R
  | .dic ks vs, k => if allInl ks = true then (keyD k).bind fun q => (dlook ks vs q).map R.val else none
  | d, k => ixD d k
theorem dlook_ne {ks : List KK} {ds : List D} {q : KK} {d : D} (h : dlook ks ds q = some d) : ks ≠ [] := by
  intro e; subst e; simp [dlook] at h
section
variable {X : Cx}
theorem ix_DD (hu : X.A.units + 1 < cLine) : IxR X (rO2 X.K ixDD) := by
  intro value slice pins s σ H x y v u Q I rx ry ⟨Z, d, e, r, h1, h2, h3, h4, h5⟩ hs
  cases d with
  | dic ks ds =>
    have h4 : (if allInl ks = true then (keyD e).bind fun q => (dlook ks ds q).map R.val else none) = some r := h4
    by_cases ha : allInl ks = true
    · rw [if_pos ha] at h4
      obtain ⟨q, hq, h4⟩ := Option.bind_eq_some_iff.mp h4
      obtain ⟨d', hd, rfl⟩ := Option.map_eq_some_iff.mp h4
      obtain ⟨a, vs, rfl, di, rl⟩ := h2
      obtain ⟨kk, rfl, hl, nd, rd⟩ := di.plain ha
      obtain ⟨k, rfl, rfl⟩ := keyD_rep h3 hq
      obtain ⟨w, hw, rw'⟩ := (dlook_val (k := k) rl hl).1 d' hd
      have g : DGet H a (kV k) (some w) := .inl ⟨_, k, rd, rfl, hw.symm⟩
      obtain rfl : v = Value.ref a := rx
      exact PyProof.Rows.tail_any (ops := [.ref a, u]) (dict_typeIs I g) PySem.F.slot_dict_getitem.lookup (d_getItem hu I g ry fun w' s' I' rr => ⟨w, H, I', rr, q_val h1 h5 rw'⟩) hs
    · rw [if_neg ha] at h4; cases h4
  | non => exact ix_D value slice pins s σ H x y v u Q I rx ry ⟨Z, _, e, r, h1, h2, h3, h4, h5⟩ hs
  | bl b => exact ix_D value slice pins s σ H x y v u Q I rx ry ⟨Z, _, e, r, h1, h2, h3, h4, h5⟩ hs
  | int b => exact ix_D value slice pins s σ H x y v u Q I rx ry ⟨Z, _, e, r, h1, h2, h3, h4, h5⟩ hs
  | str b => exact ix_D value slice pins s σ H x y v u Q I rx ry ⟨Z, _, e, r, h1, h2, h3, h4, h5⟩ hs
  | tup b => exact ix_D value slice pins s σ H x y v u Q I rx ry ⟨Z, _, e, r, h1, h2, h3, h4, h5⟩ hs
  | lst b => exact ix_D value slice pins s σ H x y v u Q I rx ry ⟨Z, _, e, r, h1, h2, h3, h4, h5⟩ hs
  | obj c n b => exact ix_D value slice pins s σ H x y v u Q I rx ry ⟨Z, _, e, r, h1, h2, h3, h4, h5⟩ hs
  | scr b => exact ix_D value slice pins s σ H x y v u Q I rx ry ⟨Z, _, e, r, h1, h2, h3, h4, h5⟩ hs
  | fn b => exact ix_D value slice pins s σ H x y v u Q I rx ry ⟨Z, _, e, r, h1, h2, h3, h4, h5⟩ hs
end
/-- k in d -/
def inDD (d : D) : D → Option R
  | .dic ks vs => if allInl ks = true then (keyD d).bind fun q => bl (dlook ks vs q).isSome else none
  | e => inD d e
def notinDD (d : D) : D → Option R
  | .dic ks vs => if allInl ks = true then (keyD d).bind fun q => bl (!(dlook ks vs q).isSome) else none
  | e => notinD d e
theorem dic_get {K : PySem.W.Frag} {Z H : Hp} {ks : List KK} {ds : List D} {a : Addr} {vs : List V} {e : D} {y : V} {q : KK} (di : DicIs H a ks vs) (rl : RepL K Z ds vs) (ha : allInl ks = true) (h3 : RepU K Z H e y) (hq : keyD e = some q) : (∃ o, DGet H a y o ∧ o.isSome = (dlook ks ds q).isSome) := by
  obtain ⟨k, rfl, rfl⟩ := keyD_rep h3 hq
  obtain ⟨kk, rfl, hl, nd, r⟩ := di.plain ha
  have lv := dlook_val (k := k) rl hl
  cases e : dlook (kk.map Sum.inl) ds (.inl k) with
  | some d =>
    obtain ⟨v, hv, _⟩ := lv.1 d e
    exact ⟨some v, .inl ⟨_, k, r, rfl, hv.symm⟩, rfl⟩
  | none => exact ⟨none, .inl ⟨_, k, r, rfl, (lv.2 e).symm⟩, rfl⟩
section
variable {X : Cx}
theorem op_inD2 (hu : X.A.units + 65 < cLine) : OpR X (compareOp .In) (rO2 X.K inDD) := by
  intro pins s σ H x y v u Q I rx ry ⟨Z, d, e, r, h1, h2, h3, h4, h5⟩
  cases e with
  | dic ks ds =>
    have h4 : (if allInl ks = true then (keyD d).bind fun q => bl (dlook ks ds q).isSome else none) = some r := h4
    by_cases ha : allInl ks = true
    · rw [if_pos ha] at h4
      obtain ⟨q, hq, h4⟩ := Option.bind_eq_some_iff.mp h4
      cases h4
      obtain ⟨a, vs, rfl, di, rl⟩ := h3
      obtain ⟨o, g, eo⟩ := dic_get di rl ha h2 hq
      obtain rfl : u = Value.ref a := ry
      exact d_in (by omega) I g rx fun s' I' => ⟨.bl o.isSome, H, I', rfl, by rw [eo]; exact q_val h1 h5 repB⟩
    · rw [if_neg ha] at h4; cases h4
  | non => exact op_inDD hu pins s σ H x y v u Q I rx ry ⟨Z, d, _, r, h1, h2, h3, h4, h5⟩
  | bl b => exact op_inDD hu pins s σ H x y v u Q I rx ry ⟨Z, d, _, r, h1, h2, h3, h4, h5⟩
  | int b => exact op_inDD hu pins s σ H x y v u Q I rx ry ⟨Z, d, _, r, h1, h2, h3, h4, h5⟩
  | str b => exact op_inDD hu pins s σ H x y v u Q I rx ry ⟨Z, d, _, r, h1, h2, h3, h4, h5⟩
  | tup b => exact op_inDD hu pins s σ H x y v u Q I rx ry ⟨Z, d, _, r, h1, h2, h3, h4, h5⟩
  | lst b => exact op_inDD hu pins s σ H x y v u Q I rx ry ⟨Z, d, _, r, h1, h2, h3, h4, h5⟩
  | obj c n b => exact op_inDD hu pins s σ H x y v u Q I rx ry ⟨Z, d, _, r, h1, h2, h3, h4, h5⟩
  | scr b => exact op_inDD hu pins s σ H x y v u Q I rx ry ⟨Z, d, _, r, h1, h2, h3, h4, h5⟩
  | fn b => exact op_inDD hu pins s σ H x y v u Q I rx ry ⟨Z, d, _, r, h1, h2, h3, h4, h5⟩
theorem op_notinD2 (hu : X.A.units + 65 < cLine) : OpR X (compareOp .NotIn) (rO2 X.K notinDD) := by
  intro pins s σ H x y v u Q I rx ry ⟨Z, d, e, r, h1, h2, h3, h4, h5⟩
  cases e with
  | dic ks ds =>
    have h4 : (if allInl ks = true then (keyD d).bind fun q => bl (!(dlook ks ds q).isSome) else none) = some r := h4
    by_cases ha : allInl ks = true
    · rw [if_pos ha] at h4
      obtain ⟨q, hq, h4⟩ := Option.bind_eq_some_iff.mp h4
      cases h4
      obtain ⟨a, vs, rfl, di, rl⟩ := h3
      obtain ⟨o, g, eo⟩ := dic_get di rl ha h2 hq
      obtain rfl : u = Value.ref a := ry
      exact d_notIn (by omega) I g rx fun s' I' => ⟨.bl (!o.isSome), H, I', rfl, by rw [eo]; exact q_val h1 h5 repB⟩
    · rw [if_neg ha] at h4; cases h4
  | non => exact op_notinDD hu pins s σ H x y v u Q I rx ry ⟨Z, d, _, r, h1, h2, h3, h4, h5⟩
  | bl b => exact op_notinDD hu pins s σ H x y v u Q I rx ry ⟨Z, d, _, r, h1, h2, h3, h4, h5⟩
  | int b => exact op_notinDD hu pins s σ H x y v u Q I rx ry ⟨Z, d, _, r, h1, h2, h3, h4, h5⟩
  | str b => exact op_notinDD hu pins s σ H x y v u Q I rx ry ⟨Z, d, _, r, h1, h2, h3, h4, h5⟩
  | tup b => exact op_notinDD hu pins s σ H x y v u Q I rx ry ⟨Z, d, _, r, h1, h2, h3, h4, h5⟩
  | lst b => exact op_notinDD hu pins s σ H x y v u Q I rx ry ⟨Z, d, _, r, h1, h2, h3, h4, h5⟩
  | obj c n b => exact op_notinDD hu pins s σ H x y v u Q I rx ry ⟨Z, d, _, r, h1, h2, h3, h4, h5⟩
  | scr b => exact op_notinDD hu pins s σ H x y v u Q I rx ry ⟨Z, d, _, r, h1, h2, h3, h4, h5⟩
  | fn b => exact op_notinDD hu pins s σ H x y v u Q I rx ry ⟨Z, d, _, r, h1, h2, h3, h4, h5⟩
end
/-- the dict of one's own, plain keys -/
theorem RepW.dic_plain {K : PySem.W.Frag} {Z H : Hp} {ks : List KK} {ds : List D} {v : V} {o : Option Addr} (h : RepW K Z H (.dic ks ds) v o) (ha : allInl ks = true) : ∃ (a : Addr) (vs : List V) (kk : List Key), v = .ref a ∧ o = some a ∧ ks = kk.map Sum.inl ∧ kk.length = vs.length ∧ kk.Nodup ∧ H a = some (.dK (kk.zip vs)) ∧ RepL K Z ds vs := by
  obtain ⟨a, vs, e, e1, ⟨l, n, e2⟩, r⟩ := h
  rcases e2 with ⟨kk, rfl, e3⟩ | ⟨kk, ⟨rfl, ne⟩, e3⟩
  · exact ⟨a, vs, kk, e, e1, rfl, by simpa using l, nodup_inl n, e3, r⟩
  · cases kk with
    | nil => exact absurd rfl ne
    | cons k kk => cases ha
/-- it is set -/
theorem RepW.dic_put {K : PySem.W.Frag} {Z H : Hp} {a : Addr} {kk : List Key} {ds : List D} {vs : List V} {k : Key} {d : D} {v : V} (hl : kk.length = vs.length) (nd : kk.Nodup) (rl : RepL K Z ds vs) (rd : RepD K Z d v) :
    RepW K Z (upd H a (.dK (putK (kk.zip vs) k v))) (.dic (dput (kk.map Sum.inl) ds (.inl k) d).1 (dput (kk.map Sum.inl) ds (.inl k) d).2) (.ref a) (some a) := by
  obtain ⟨e1, e2⟩ := dput_rep (k := k) rd rl hl
  refine ⟨a, (vput kk vs k v).2, rfl, rfl, ⟨?_, ?_, .inl ⟨(vput kk vs k v).1, e1, ?_⟩⟩, e2⟩
  · rw [e1, List.length_map]; exact vput_len hl
  · rw [e1]; exact nodup_inl' ((vput_keys hl).2 nd)
  · rw [upd_same, putK_zip hl nd]
def dicSet : W → D → D → Option W
  | .dic ks ds, k, d => if allInl ks = true ∧ ks.length < sizeLine then (keyD k).map fun q => .dic (dput ks ds q d).1 (dput ks ds q d).2 else none
  | _, _, _ => none
def rDSet : TSet := fun o i v H Q => ∃ a H', o = .ref a ∧ DPut H a i v H' ∧ Q H'
theorem set_dic {X : Cx} (hu : X.A.units + 1 < cLine) : PSet X rDSet := by
  intro pins s σ H o i v ov iv u Q I ro ri rv ⟨a, H', e, g, q⟩
  subst e
  obtain rfl : ov = Value.ref a := ro
  exact d_setItem hu I g ri rv fun s' I' => ⟨H', I', q⟩
theorem set_dicOk : SetOk dicSet rDSet where
  nd := fun w x d h e z => by subst z; exact h rfl
  run := fun K Z H w w' x d a vx vd Q e s r u rd q => by
    cases w with
    | dic ks ds =>
      have e : (if allInl ks = true ∧ ks.length < sizeLine then (keyD x).map fun q => W.dic (dput ks ds q d).1 (dput ks ds q d).2 else none) = some w' := e
      by_cases c : allInl ks = true ∧ ks.length < sizeLine
      · rw [if_pos c] at e
        obtain ⟨k, hk, rfl⟩ := Option.map_eq_some_iff.mp e
        obtain ⟨a', vs, kk, e1, e2, rfl, hl, nd, ha, rl⟩ := r.dic_plain c.1
        cases e2
        obtain ⟨k', rfl, rfl⟩ := keyD_rep u hk
        refine ⟨_, _, rfl, .inl ⟨_, k', ha, rfl, ?_, rfl⟩, q _ (RepW.dic_put hl nd rl rd)⟩
        rw [List.length_zip, ← hl, Nat.min_self]
        simpa using c.2
      · rw [if_neg c] at e; cases e
    | _ => cases e
/-- d.setdefault(k, v) -/
theorem mt_setdefault {X : Cx} : MtR X "dict.setdefault" rSetd := by
  intro pins s σ H x vs v us Q I rx rv h
  obtain ⟨a, kvs, k, z, el, rfl, ea, hl, w1, w2⟩ := h
  subst el
  obtain rfl : v = Value.ref a := rx
  cases rv with
  | cons ry rv =>
    cases rv with
    | cons rd rv =>
      cases rv
      obtain ⟨z', hd, vs0, rel, dd⟩ := dk_of I.hok ea
      have hz : vs0.length ≤ sizeLine := by rw [← rel.length]; exact z'
      refine call_meetsIn F.slot_dict_setdefault dd.typeIs F.entry_dict_setdefault (F.args_dict_setdefault_3 _ _ _) (kt_meets_setdefault (mixKind X.prog X.w) _ (kV_is ry) hd _) ⟨vs0, dd, hz, fun u hu => ?_, fun hn h' dd' hs => ?_⟩
      · have rr := rel.val k
        rw [hu] at rr
        cases hv : valV kvs k with
        | none => rw [hv] at rr; exact False.elim rr
        | some x =>
          rw [hv] at rr
          exact (⟨x, H, I.tok _, rr, w1 x hv⟩ : EP X pins σ Q u _)
      · have rr := rel.val k
        rw [hn] at rr
        cases hv : valV kvs k with
        | some x => rw [hv] at rr; exact False.elim rr
        | none =>
          have hl2 : (putK kvs k z).length ≤ sizeLine := by have := length_putK kvs k z; omega
          exact (⟨z, _, d_write (t' := s.toks + 1) I (by rw [ea]; exact True.intro) hs (let ⟨q, _, _, hq, _⟩ := dd'; ⟨q, hq⟩) (dk_new hl2 hd (rel.put k rd) dd'), rd, w2 hv⟩ : EP X pins σ Q _ _)
def W.isDic : W → Bool
  | .dic ks _ => allInl ks
  | _ => false
def setdW : W → List D → Option (W × D)
  | .dic ks ds, [k, d] => if allInl ks = true ∧ ks.length < sizeLine then (keyD k).map fun q => match dlook ks ds q with
      | some e => (.dic ks ds, e)
      | none => (.dic (dput ks ds q d).1 (dput ks ds q d).2, d)
    else none
  | _, _ => none
theorem upd_self {H : Hp} {a : Addr} {o : HO} (h : H a = some o) : upd H a o = H := by
  funext b
  by_cases e : b = a
  · subst e; rw [upd_same, h]
  · rw [upd_ne e]
theorem dic_ty : ∀ (K : PySem.W.Frag) (Z H : Hp) (w : W) (a : Addr), w.isDic = true → RepW K Z H w (.ref a) (some a) → tyV K "dict" (.ref a) H := fun K Z H w a h r => by
  cases w with
  | dic ks ds =>
    obtain ⟨a', vs, kk, e1, e2, _, _, _, ha, _⟩ := r.dic_plain h
    cases e2
    exact .inr (.inr (.inl ⟨rfl, .inl ⟨_, ha⟩⟩))
  | _ => cases h
theorem mut_setd : MutOk "dict" W.isDic setdW rSetd where
  own := fun w h d e => by subst e; cases h
  ty := dic_ty
  nd := fun w ds h d e => by subst e; exact h rfl
  run := fun K Z H w w' es d a us Q e r rl q => by
    unfold setdW at e
    split at e
    · rename_i ks ds k y
      by_cases c : allInl ks = true ∧ ks.length < sizeLine
      · rw [if_pos c] at e
        obtain ⟨k', hk, e⟩ := Option.map_eq_some_iff.mp e
        obtain ⟨a', vs, kk, e1, e2, rfl, hl, nd, ha, rx⟩ := r.dic_plain c.1
        cases e2
        unfold RepL at rl
        obtain ⟨v1, t, rfl, r1, r2⟩ := rl
        unfold RepL at r2
        obtain ⟨v2, t2, rfl, r2, r3⟩ := r2
        unfold RepL at r3
        subst r3
        have k2 : ∃ q : Key, k' = .inl q ∧ v1 = kV q := by
          cases k with
          | int i => cases hk; unfold RepD at r1; exact ⟨.inl i, rfl, r1⟩
          | str x => cases hk; unfold RepD at r1; exact ⟨.inr x, rfl, r1⟩
          | _ => cases hk
        obtain ⟨kq, rfl, rfl⟩ := k2
        have lv := dlook_val (k := kq) rx hl
        refine ⟨_, _, kq, v2, rfl, rfl, ha, by rw [List.length_zip, ← hl, Nat.min_self]; simpa using c.2, fun u hu => ?_, fun hn => ?_⟩
        · cases ed : dlook (kk.map Sum.inl) ds (.inl kq) with
          | none => rw [lv.2 ed] at hu; cases hu
          | some d' =>
            rw [ed] at e
            cases e
            obtain ⟨v, hv, rv⟩ := lv.1 _ ed
            rw [hv] at hu
            cases hu
            have := q (.dK (kk.zip vs)) _ (by rw [upd_self ha]; exact r) rv
            rw [upd_self ha] at this
            exact this
        · cases ed : dlook (kk.map Sum.inl) ds (.inl kq) with
          | some d' =>
            obtain ⟨v, hv, rv⟩ := lv.1 _ ed
            rw [hv] at hn; cases hn
          | none =>
            rw [ed] at e
            cases e
            exact q _ v2 (RepW.dic_put hl nd rx r2) r2
      · rw [if_neg c] at e; cases e
    · cases e
end Spl

namespace Spl
open PySem PySem.Spec L2

/-! dicts under a lock -/
theorem pe_or {X : Cx} {e : Expr} {t u : TE} (h : PE X e t) (k : PE X e u) : PE X e fun σ H Q => t σ H Q ∨ u σ H Q := ⟨fun pins s σ H Q I q => q.elim (h.run pins s σ H Q I) (k.run pins s σ H Q I)⟩
theorem ps_or {X : Cx} {e : Stmt} {t u : TS} (h : PS X e t) (k : PS X e u) : PS X e fun D σ H => t D σ H ∨ u D σ H := ⟨fun pins s σ H Q I q => q.elim (h.run pins s σ H Q I) (k.run pins s σ H Q I)⟩
structure DW (wi : TE → TI) (J : Addr → Obj → List (Key × V) → It) (f : List Key → List D → List D) : Prop where
  intro_ : ∀ (i : Nat) (σ : St) (H : Hp) (R : It → Hp → Prop) (d : Addr) (o : Obj) (kvs : List (Key × V)), σ[i]? = some (some (.ref d)) → H d = some (.frz o (.dK kvs)) → R (J d o kvs) H → wi (tVar i) σ H R
  walk : ∀ (K : PySem.W.Frag) (g : Gh) (H : Hp) (d : Addr) (o : Obj) (kk : List Key) (vs : List V) (ds : List D), (∀ g' H', Ext g H g' H' → H' d = some (.frz o (.dK (kk.zip vs)))) → RepL K g.Z ds vs → kk.length = vs.length → Walk K g H (J d o (kk.zip vs)) (f kk ds)
theorem keyD_v {K : PySem.W.Frag} {Z : Hp} {k : Key} : RepD K Z (D.keyD k) (kV k) := by
  cases k with
  | inl i => exact repI
  | inr x => exact repS
def keysOf (kk : List Key) (_ : List D) : List D := kk.map D.keyD
def itemsOf : List Key → List D → List D
  | k :: kk, d :: ds => .tup [D.keyD k, d] :: itemsOf kk ds
  | _, _ => []
theorem itemsOf_len : ∀ (kk : List Key) (ds : List D), (itemsOf kk ds).length = min kk.length ds.length
  | [], ds => by simp [itemsOf]
  | k :: kk, [] => by simp [itemsOf]
  | k :: kk, d :: ds => by rw [itemsOf, List.length_cons, itemsOf_len]; simp
theorem itemsOf_get : ∀ (kk : List Key) (ds : List D) (i : Nat) (e : D), (itemsOf kk ds)[i]? = some e → ∃ k d, kk[i]? = some k ∧ ds[i]? = some d ∧ e = .tup [D.keyD k, d]
  | [], ds, i, e, h => by simp [itemsOf] at h
  | k :: kk, [], i, e, h => by simp [itemsOf] at h
  | k :: kk, d :: ds, 0, e, h => by rw [itemsOf] at h; simp at h; exact ⟨k, d, rfl, rfl, h.symm⟩
  | k :: kk, d :: ds, i + 1, e, h => by
    rw [itemsOf] at h
    obtain ⟨a, b, h1, h2, h3⟩ := itemsOf_get kk ds i e (by simpa using h)
    exact ⟨a, b, by simpa using h1, by simpa using h2, h3⟩
theorem zip_get {kk : List Key} {vs : List V} {i : Nat} {k : Key} {v : V} (h1 : kk[i]? = some k) (h2 : vs[i]? = some v) : (kk.zip vs)[i]? = some (k, v) := List.getElem?_zip_eq_some.mpr ⟨h1, h2⟩
theorem dw_keys : DW iKeys Itk keysOf where
  intro_ := fun i σ H R d o kvs hv hl r => ⟨_, hv, d, o, rfl, .inl ⟨kvs, hl, r⟩⟩
  walk := fun K g H d o kk vs ds hl rl le => {
    go := fun i g' H' x s hi => ⟨hl g' H' x, by rw [List.length_zip, ← le, Nat.min_self]; simpa [keysOf] using hi⟩
    yld := fun i g' H' y H'' e x s he ⟨eH, k, v, h1, h2⟩ => by
      subst eH h2
      obtain ⟨h3, h4⟩ := List.getElem?_zip_eq_some.mp h1
      have he : (kk.map D.keyD)[i]? = some e := he
      rw [List.getElem?_map, h3] at he
      cases he
      exact ⟨g'.Z, .refl s, keyD_v⟩
    stop := fun g' H' x s => ⟨hl g' H' x, by rw [List.length_zip, ← le, Nat.min_self]; simp [keysOf]⟩ }
theorem dw_items : DW iItems Iti itemsOf where
  intro_ := fun i σ H R d o kvs hv hl r => ⟨_, hv, d, o, kvs, rfl, hl, r⟩
  walk := fun K g H d o kk vs ds hl rl le => {
    go := fun i g' H' x s hi => ⟨hl g' H' x, by rw [itemsOf_len, rl.length] at hi; rw [List.length_zip]; exact hi⟩
    yld := fun i g' H' y H'' e x s he ⟨T, k, v, h1, h2, hT, eH⟩ => by
      subst eH h2
      obtain ⟨h3, h4⟩ := List.getElem?_zip_eq_some.mp h1
      obtain ⟨k', d', h5, h6, rfl⟩ := itemsOf_get kk ds i e he
      rw [h3] at h5
      cases h5
      obtain ⟨v', h7, rv⟩ := rl.get h6
      rw [h4] at h7
      cases h7
      exact pair_new s hT keyD_v (rv.sub (.of x.z))
    stop := fun g' H' x s => ⟨hl g' H' x, by rw [itemsOf_len, rl.length, List.length_zip]; exact Nat.le_refl _⟩ }
theorem dw_vals : DW iVals Itd (fun _ ds => ds) where
  intro_ := fun i σ H R d o kvs hv hl r => ⟨_, hv, d, o, kvs, rfl, hl, r⟩
  walk := fun K g H d o kk vs ds hl rl le => {
    go := fun i g' H' x s hi => ⟨hl g' H' x, by rw [List.length_zip, le, Nat.min_self, ← rl.length]; exact hi⟩
    yld := fun i g' H' y H'' e x s he ⟨eH, k, h1⟩ => by
      subst eH
      obtain ⟨h3, h4⟩ := List.getElem?_zip_eq_some.mp h1
      obtain ⟨v', h7, rv⟩ := rl.get he
      rw [h4] at h7
      cases h7
      exact ⟨g'.Z, .refl s, rv.sub (.of x.z)⟩
    stop := fun g' H' x s => ⟨hl g' H' x, by rw [List.length_zip, le, Nat.min_self, ← rl.length]; exact Nat.le_refl _⟩ }
def outInl : List KK → List Key
  | .inl k :: r => k :: outInl r
  | _ => []
/-- the dict in slot i, frozen; what a walk of it gives -/
def itDic (io : List Nat) (i : Nat) (f : List Key → List D → List D) (ρ : Rho) : Rs (List D) := (evV i ρ).bind fun r ρ1 => (freeze io r ρ1).bind fun d ρ2 => match d with
  | .dic ks ds => if allInl ks = true then .ok (f (outInl ks) ds) ρ2 else .stuck
  | _ => .stuck
theorem unInl : ∀ kk : List Key, outInl (kk.map (Sum.inl : Key → KK)) = kk
  | [] => rfl
  | k :: kk => by rw [List.map_cons, outInl, unInl kk]
theorem Rel.lock {K : PySem.W.Frag} {g : Gh} {ρ : Rho} {σ : St} {H : Hp} {d : Addr} {u : HO} {od : Obj} (G : Rel K g ρ σ H) (hz : g.Z d = some u) (hd : H d = some u) (lk : Lk u) : Rel K g ρ σ (upd H d (.frz od u)) := by
  refine ⟨G.len, fun b o e => ?_, fun i w e => ?_, G.emp, G.nz, G.inj⟩
  · by_cases hb : b = d
    · subst hb
      rw [hz] at e; cases e
      exact .inr ⟨lk, od, upd_same⟩
    · rw [upd_ne hb]; exact G.sub b o e
  · obtain ⟨v, hv, r⟩ := G.at_ i w e
    refine ⟨v, hv, r.stay (fun _ _ h => h) fun a o ea q => ?_⟩
    have hb : a ≠ d := fun z => by have := G.nz i a ea; rw [z, hz] at this; cases this
    rw [upd_ne hb]; exact q
theorem Rel.unlock {K : PySem.W.Frag} {g : Gh} {ρ : Rho} {σ : St} {H : Hp} {d : Addr} {u : HO} (G : Rel K g ρ σ H) (hz : g.Z d = some u) : Rel K g ρ σ (upd H d u) := by
  refine ⟨G.len, fun b o e => ?_, fun i w e => ?_, G.emp, G.nz, G.inj⟩
  · by_cases hb : b = d
    · subst hb
      rw [hz] at e; cases e
      exact .inl upd_same
    · rw [upd_ne hb]; exact G.sub b o e
  · obtain ⟨v, hv, r⟩ := G.at_ i w e
    refine ⟨v, hv, r.stay (fun _ _ h => h) fun a o ea q => ?_⟩
    have hb : a ≠ d := fun z => by have := G.nz i a ea; rw [z, hz] at this; cases this
    rw [upd_ne hb]; exact q
theorem Ext.unlock {g g' : Gh} {H H' : Hp} {d : Addr} {u : HO} {od : Obj} (x : Ext g (upd H d (.frz od u)) g' H') (hd : H d = some u) : Ext g H g' (upd H' d u) := by
  refine ⟨x.z, fun b o e n => ?_, fun b e => ?_, fun b e => ?_, fun i a e => ?_, x.io, x.ioo⟩
  · by_cases hb : b = d
    · subst hb; rw [hd] at e; cases e; exact upd_same
    · rw [upd_ne hb]; exact x.fr b o (by rw [upd_ne hb]; exact e) n
  · by_cases hb : b = d
    · subst hb; rw [upd_same]; simp
    · rw [upd_ne hb]; exact x.fr2 b (by rw [upd_ne hb]; exact e)
  · rcases x.nw b e with q | q | q
    · exact .inl q
    · by_cases hb : b = d
      · subst hb; rw [upd_same] at q; cases q
      · rw [upd_ne hb] at q; exact .inr (.inl q)
    · exact .inr (.inr q)
  · rcases x.ow i a e with q | q
    · exact .inl q
    · by_cases hb : a = d
      · subst hb; rw [upd_same] at q; cases q
      · rw [upd_ne hb] at q; exact .inr q
theorem Loose.unlock {g : Gh} {H : Hp} {L d : Addr} {acc : List V} {u : HO} (h : Loose g H L acc) (hd : g.Z d = some u) : Loose g (upd H d u) L acc :=
  ⟨by rw [upd_ne (fun z => by have := h.nz; rw [z, hd] at this; cases this)]; exact h.at_, h.nz, h.no⟩
/-- the dict stands, locked or not -/
theorem itDic_ok {c : Ct} {γ δ : Type} {g : Gh} {ρ : Rho} {σ : St} {H : Hp} {rep' : Gh → Hp → γ → δ → Prop} {P : Rs γ → Prop} {i : Nat} {f : List Key → List D → List D} {k : List D → Rho → Rs γ} (hs : ¬ P .stuck) (hio : g.io = c.io) (G : Rel c.K g ρ σ H) (h : P ((itDic c.io i f ρ).bind k)) :
    ∃ (g1 : Gh) (ρ1 : Rho) (d : Addr) (kk : List Key) (vs : List V) (ds : List D), Ext g H g1 H ∧ Rel c.K g1 ρ1 σ H ∧ σ[i]? = some (some (.ref d)) ∧ Rd g1.Z d (.dK (kk.zip vs)) ∧ RepL c.K g1.Z ds vs ∧ kk.length = vs.length ∧ P (k (f kk ds) ρ1) := by
  unfold itDic evV at h
  cases e : look ρ i with
  | none => rw [e] at h; exact absurd h hs
  | some w =>
    rw [e] at h
    obtain ⟨v, hv, r⟩ := G.at_ i w e
    have fin : ∀ (R0 : R), RepR c.K H g σ H R0 v → P (((freeze c.io R0 ρ).bind fun d ρ2 => match d with
        | .dic ks ds => if allInl ks = true then Rs.ok (f (outInl ks) ds) ρ2 else .stuck
        | _ => .stuck).bind k) → ∃ (g1 : Gh) (ρ1 : Rho) (d : Addr) (kk : List Key) (vs : List V) (ds : List D), Ext g H g1 H ∧ Rel c.K g1 ρ1 σ H ∧ σ[i]? = some (some (.ref d)) ∧ Rd g1.Z d (.dK (kk.zip vs)) ∧ RepL c.K g1.Z ds vs ∧ kk.length = vs.length ∧ P (k (f kk ds) ρ1) := by
      intro R0 rr h
      rcases freeze_ok (.refl g H) G rr with e2 | ⟨d, ρ1, g1, e2, x1, G1, rd⟩
      · rw [hio] at e2; rw [e2] at h; exact absurd h hs
      · rw [hio] at e2; rw [e2] at h
        cases d with
        | dic ks ds =>
          have h : P ((if allInl ks = true then Rs.ok (f (outInl ks) ds) ρ1 else .stuck).bind k) := h
          by_cases ha : allInl ks = true
          · rw [if_pos ha] at h
            unfold RepD at rd
            obtain ⟨a, vs, ev, di, rl⟩ := rd
            obtain ⟨kk, rfl, hl, nd, rk⟩ := di.plain ha
            rw [unInl] at h
            subst ev
            exact ⟨g1, ρ1, a, kk, vs, ds, x1, G1, hv, rk, rl, hl, h⟩
          · rw [if_neg ha] at h; exact absurd h hs
        | _ => exact absurd h hs
    cases w with
    | dat d => exact fin (.val d) r.2 h
    | lst xs => exact fin (.place i) hv h
    | dic ks ds => exact fin (.place i) hv h
    | obj cn ns ds => exact fin (.place i) hv h
theorem rd_frz_or {Z H : Hp} {d : Addr} {kvs : List (Key × V)} (s : Sub Z H) (r : Rd Z d (.dK kvs)) : (Z d = some (.dK kvs) ∧ H d = some (.dK kvs)) ∨ ∃ o, H d = some (.frz o (.dK kvs)) := by
  rcases r with r | ⟨o, r⟩
  · rcases s d _ r with q | ⟨_, o, q⟩
    · exact .inl ⟨r, q⟩
    · exact .inr ⟨o, q⟩
  · rcases s d _ r with q | ⟨lk, _⟩
    · exact .inr ⟨o, q⟩
    · exact lk.elim

section
variable {X : Cx} {Wx : WX} {io : List Nat} {elt tg iter e : Expr} {ifs : List Expr} {scope : Scope} {own : List (Str × Nat)} {pos spos py : Pos} {ft : D → Rho → Rs Unit} {fc : Rho → Rs Bool} {fe : Rho → Rs R} {wi : TE → TI} {J : Addr → Obj → List (Key × V) → It} {f : List Key → List D → List D} {i : Nat}
theorem PostLc.unlock {c : Ct} {g g1 : Gh} {σ : St} {H : Hp} {d : Addr} {u : HO} {od : Obj} {L : Addr} {Q : VK} {vs : List Nat} {ρ1 : Rho} {xs : List D} (hz : g1.Z d = some u) (hd : H d = some u) (no : ∀ i, g1.own i ≠ some d) (x1 : Ext g H g1 H) (hL : upd H d (.frz od u) L = none)
    (p : Post c g σ H (repR c σ H) Q ((lcL c.io vs ρ1 ft fc fe xs ρ1 []).bind fun ds ρ2 => .ok (.tmp (.lst ds)) ρ2)) :
    PostLc c g1 σ (upd H d (.frz od u)) L (fun v H' => H' d = some (.frz od u) ∧ Q v (upd H' d u)) (lcL c.io vs ρ1 ft fc fe xs ρ1 []) := by
  have hLd : L ≠ d := fun z => by rw [z, upd_same] at hL; cases hL
  have hL' : H L = none := by rw [upd_ne hLd] at hL; exact hL
  refine lc_post (c := c) (g := g1) (H := upd H d (.frz od u)) (.refl g1 _) L hL (E := Post c g σ H (repR c σ H) Q) (fun z => z) (fun _ _ _ _ => .inr trivial) ?_ p
  intro ds ρ2 H' g' acc p x' G' h1 h2 h3 h4
  have hz' := x'.z d u hz
  refine ⟨x'.fr _ _ upd_same no, ?_⟩
  refine p (.ref L) (upd H' d u) g' (x1.trans (x'.unlock hd)) (G'.unlock hz') ⟨L, ⟨L, acc, rfl, rfl, by rw [upd_ne hLd]; exact h1, h4⟩, h2, h3, hL'⟩
/-- a comprehension over a dict in a slot -/
theorem SE_lcD (w : DW wi J f) (hc : X.calm = true) (hN : X.N.Nodup) (hi : PI X tg iter (wi (tVar i))) (ok : BlkOk X.N X.env.scope scope own)
    (hg : ∀ (s : Shared) (H : Hp) (C : Addr) (cl : List (Str × Addr)) (fp : List Addr), SG (X.blk s H scope (compEnvC scope cl C X.env) fp) WF io (own.map (·.2)) tg ft) (ht : ∀ (s : Shared) (H : Hp) (C : Addr) (cl : List (Str × Addr)) (fp : List Addr), STs (X.blk s H scope (compEnvC scope cl C X.env) fp) WF io ifs fc)
    (he : ∀ (s : Shared) (H : Hp) (C : Addr) (cl : List (Str × Addr)) (fp : List Addr), SE (X.blk s H scope (compEnvC scope cl C X.env) fp) WF io elt fe) (hs : ∀ x, foldedSetIterable iter X.env x = pure x) :
    SE X Wx io (.ListComp elt [⟨tg, iter, ifs, 0⟩] scope pos) (evLc io (own.map (·.2)) (itDic io i f) ft fc fe) := by
  have base := pe_lc (g := tSg ⟨X.K, WF, io⟩ (own.map fun p : Str × Nat => p.2) ft) (own := own) (tt := tT ⟨X.K, WF, io⟩ fc) (te := tS ⟨X.K, WF, io⟩ fe) (pos := pos) hc hN hi ok hg ht he hs
  refine PE.imp (pe_or (pe_lock base) base) fun σ H Q ⟨ρ, g, hio, G, q⟩ => ?_
  obtain ⟨g1, ρ1, d, kk, vs, ds, x1, G1, hv, rd, rl, hl, p⟩ := itDic_ok (c := ⟨X.K, Wx, io⟩) (rep' := repR ⟨X.K, Wx, io⟩ σ H) (P := Post ⟨X.K, Wx, io⟩ g σ H (repR ⟨X.K, Wx, io⟩ σ H) Q) (fun z => z) hio G q
  by_cases ov : vsOk io (own.map (·.2)) ρ1 = true
  · rw [if_pos ov] at p
    have no : ∀ i, g1.own i ≠ some d := fun j e => by
      have := G1.nz j d e
      rcases rd with r | ⟨o, r⟩ <;> rw [this] at r <;> cases r
    rcases rd_frz_or G1.sub rd with ⟨hz, hd⟩ | ⟨o, hd⟩
    · refine .inl ⟨d, _, hd, trivial, fun od => ?_⟩
      have Gl := G1.lock (od := od) hz hd trivial
      refine w.intro_ i σ _ _ d od _ hv upd_same fun L hL => ?_
      have wk : Walk X.K g1 (upd H d (.frz od (.dK (kk.zip vs)))) (J d od (kk.zip vs)) (f kk ds) := w.walk X.K g1 _ d od kk vs ds (fun g' H' x => x.fr _ _ upd_same no) rl hl
      exact lc_turns (c := ⟨X.K, Wx, io⟩) (x1.io.trans hio) Gl wk ov hL (PostLc.unlock (c := ⟨X.K, Wx, io⟩) hz hd no x1 hL p)
    · refine .inr (w.intro_ i σ H _ d o _ hv hd fun L hL => ?_)
      have wk : Walk X.K g1 H (J d o (kk.zip vs)) (f kk ds) := w.walk X.K g1 _ d o kk vs ds (fun g' H' x => x.fr _ _ hd no) rl hl
      refine lc_turns (c := ⟨X.K, Wx, io⟩) (x1.io.trans hio) G1 wk ov hL (lc_post (c := ⟨X.K, Wx, io⟩) x1 L hL (E := Post ⟨X.K, Wx, io⟩ g σ H (repR ⟨X.K, Wx, io⟩ σ H) Q) (fun z => z) (fun _ _ _ _ => .inr trivial) ?_ p)
      intro ds ρ2 H' g' acc p x' G' h1 h2 h3 h4
      exact p (.ref L) H' g' (x1.trans x') G' ⟨L, ⟨L, acc, rfl, rfl, h1, h4⟩, h2, h3, Classical.byContradiction fun n => x1.fr2 L n hL⟩
  · rw [if_neg ov] at p; exact p.elim
end
/-- no exception leaves a walk of a dict -/
def stForD (it : Rho → Rs (List D)) (tg : D → Rho → Rs Unit) (body : Rho → Rs Fl) (ρ : Rho) : Rs Fl := nox ((it ρ).bind fun xs ρ1 => forL tg body xs ρ1)
theorem PostS.unlock {c c' : Ct} {g g1 : Gh} {σ : St} {H : Hp} {d : Addr} {u : HO} {od : Obj} {E : Ends} {x : Rs Fl} (hK : c'.K = c.K) (hz : g1.Z d = some u) (hd : H d = some u) (no : ∀ i, g1.own i ≠ some d) (x1 : Ext g H g1 H) (p : PostS c g σ H E (nox x)) :
    PostS c' g1 σ (upd H d (.frz od u)) ⟨fun σ' H' => H' d = some (.frz od u) ∧ E.nx σ' (upd H' d u), fun v H' => H' d = some (.frz od u) ∧ E.rt v (upd H' d u), fun σ' H' => H' d = some (.frz od u) ∧ E.bk σ' (upd H' d u), fun σ' H' => H' d = some (.frz od u) ∧ E.ct σ' (upd H' d u)⟩ x := by
  cases x with
  | stuck => exact p
  | exc => exact p.elim
  | ok fl ρ =>
    have fin : ∀ {σ' : St} {H' : Hp} {g' : Gh}, Ext g1 (upd H d (.frz od u)) g' H' → Rel c'.K g' ρ σ' H' → H' d = some (.frz od u) ∧ Ext g H g' (upd H' d u) ∧ Rel c.K g' ρ σ' (upd H' d u) := fun {σ' H' g'} x' G' =>
      ⟨x'.fr _ _ upd_same no, x1.trans (x'.unlock hd), by rw [hK] at G'; exact G'.unlock (x'.z d u hz)⟩
    cases fl with
    | nx => exact fun σ' H' g' x' G' => let ⟨a, b, e⟩ := fin x' G'; ⟨a, p σ' _ g' b e⟩
    | bk => exact fun σ' H' g' x' G' => let ⟨a, b, e⟩ := fin x' G'; ⟨a, p σ' _ g' b e⟩
    | ct => exact fun σ' H' g' x' G' => let ⟨a, b, e⟩ := fin x' G'; ⟨a, p σ' _ g' b e⟩
    | rt r =>
      intro v σ' H' g' x' G' rr
      obtain ⟨a, b, e⟩ := fin x' G'
      refine ⟨a, p v σ' _ g' b e ?_⟩
      rw [hK] at rr
      cases r with
      | val d' => exact rr
      | place j => exact rr
      | tmp w =>
        obtain ⟨t, rw', z1, z2, z3⟩ := rr
        have ht : t ≠ d := fun z => by rw [z, x'.z d u hz] at z1; cases z1
        refine ⟨t, rw'.stay (fun _ _ h => h) (fun b o eb q => ?_), z1, z2, by rw [upd_ne ht] at z3; exact z3⟩
        cases eb
        rw [upd_ne ht]; exact q
section
variable {X : Cx} {Wx : WX} {io L : List Nat} {tg it : Expr} {body : List Stmt} {ft : D → Rho → Rs Unit} {fb : Rho → Rs Fl} {pos : Pos} {wi : TE → TI} {J : Addr → Obj → List (Key × V) → It} {f : List Key → List D → List D} {i : Nat}
theorem SSt_forD (w : DW wi J f) (hp : PassesOwn (model X.prog X.w) X.A X.env X.xe) (hc : X.calm = true) (hi : PI X tg it (wi (tVar i))) (hg : SG X WF io L tg ft) (hb : SSs X WF io body fb) (hs : ∀ x, foldedSetIterable it X.env x = pure x) : SSt X Wx io (.For tg it body [] pos) (stForD (itDic io i f) ft fb) := by
  have base := ps_for (pos := pos) hp hc hi hg hb hs
  refine PS.imp (ps_or (ps_lock base) base) fun E σ H ⟨ρ, g, hio, G, q⟩ => ?_
  obtain ⟨g1, ρ1, d, kk, vs, ds, x1, G1, hv, rd, rl, hl, p⟩ := itDic_ok (c := ⟨X.K, Wx, io⟩) (γ := Fl) (δ := Unit) (rep' := fun _ _ _ _ => True) (P := fun x => PostS ⟨X.K, Wx, io⟩ g σ H E (nox x)) (fun z => z) hio G q
  have no : ∀ i, g1.own i ≠ some d := fun j e => by
    have := G1.nz j d e
    rcases rd with r | ⟨o, r⟩ <;> rw [this] at r <;> cases r
  rcases rd_frz_or G1.sub rd with ⟨hz, hd⟩ | ⟨o, hd⟩
  · refine .inl ⟨d, _, hd, trivial, fun od => ?_⟩
    have Gl := G1.lock (od := od) hz hd trivial
    refine w.intro_ i σ _ _ d od _ hv upd_same ?_
    have wk : Walk X.K g1 (upd H d (.frz od (.dK (kk.zip vs)))) (J d od (kk.zip vs)) (f kk ds) := w.walk X.K g1 _ d od kk vs ds (fun g' H' x => x.fr _ _ upd_same no) rl hl
    exact for_turns (c := ⟨X.K, WF, io⟩) (x1.io.trans hio) Gl wk (PostS.unlock (c := ⟨X.K, Wx, io⟩) (c' := ⟨X.K, WF, io⟩) rfl hz hd no x1 p)
  · refine .inr (w.intro_ i σ H _ d o _ hv hd ?_)
    have wk : Walk X.K g1 H (J d o (kk.zip vs)) (f kk ds) := w.walk X.K g1 _ d o kk vs ds (fun g' H' x => x.fr _ _ hd no) rl hl
    have p2 : PostS ⟨X.K, WF, io⟩ g1 σ H E (forL ft fb (f kk ds) ρ1) := by
      cases ex : forL ft fb (f kk ds) ρ1 with
      | stuck => rw [ex] at p; exact p
      | exc => rw [ex] at p; exact p.elim
      | ok fl ρ2 =>
        rw [ex] at p
        have := PostS.later (σ1 := σ) x1 p
        cases fl with
        | nx => exact this
        | bk => exact this
        | ct => exact this
        | rt r => exact this
    exact for_turns (c := ⟨X.K, WF, io⟩) (x1.io.trans hio) G1 wk p2
end
end Spl

namespace Spl
open PySem PySem.Spec L2

/-! displays of dicts -/
def evPairs (io : List Nat) : List ((Rho → Rs R) × (Rho → Rs R)) → Rho → Rs (List (D × D))
  | [], ρ => .ok [] ρ
  | (f, h) :: fs, ρ => (f ρ).bind fun r ρ1 => (freeze io r ρ1).bind fun k ρ2 => (h ρ2).bind fun q ρ3 => (freeze io q ρ3).bind fun d ρ4 => (evPairs io fs ρ4).bind fun ps ρ5 => .ok ((k, d) :: ps) ρ5
def foldP : List (D × D) → List KK → List D → Option (List KK × List D)
  | [], ks, ds => some (ks, ds)
  | (k, d) :: ps, ks, ds => (keyD k).bind fun q => foldP ps (dput ks ds q d).1 (dput ks ds q d).2
def evDic (io : List Nat) (fs : List ((Rho → Rs R) × (Rho → Rs R))) (ρ : Rho) : Rs R := (evPairs io fs ρ).bind fun ps ρ1 => if ps.length ≤ 15 then opt ((foldP ps [] []).map fun r => .tmp (.dic r.1 r.2)) ρ1 else .stuck
def evDic0 (ρ : Rho) : Rs R := .ok (.tmp (.dic [] [])) ρ
inductive RepPs (K : PySem.W.Frag) (Z : Hp) : List (D × D) → List (V × V) → Prop
  | nil : RepPs K Z [] []
  | cons {k d : D} {x y : V} {ps : List (D × D)} {vs : List (V × V)} : RepD K Z k x → RepD K Z d y → RepPs K Z ps vs → RepPs K Z ((k, d) :: ps) ((x, y) :: vs)
theorem RepPs.sub {K : PySem.W.Frag} {Z Z' : Hp} (s : Sub Z Z') {ps : List (D × D)} {vs : List (V × V)} (h : RepPs K Z ps vs) : RepPs K Z' ps vs := by
  induction h with
  | nil => exact .nil
  | cons a b _ ih => exact .cons (a.sub s) (b.sub s) ih
def SPs (X : Cx) (Wx : WX) (io : List Nat) (pos : Pos) (ks : List (Option Expr)) (vs : List Expr) (fs : List ((Rho → Rs R) × (Rho → Rs R))) : Prop := PPs X pos ks vs (fs.map fun p => (tS ⟨X.K, Wx, io⟩ p.1, tS ⟨X.K, Wx, io⟩ p.2))
/-- the cell that is being filled -/
structure LooseO (g : Gh) (H : Hp) (L : Addr) (o : HO) : Prop where
  at_ : H L = some o
  nz : g.Z L = none
  no : ∀ i, g.own i ≠ some L
theorem LooseO.ext {g g' : Gh} {H H' : Hp} {L : Addr} {o : HO} (h : LooseO g H L o) (x : Ext g H g' H') : LooseO g' H' L o := by
  refine ⟨x.fr _ _ h.at_ h.no, ?_, fun i e => ?_⟩
  · cases q : g'.Z L with
    | none => rfl
    | some o' =>
      rcases x.nw L (by rw [q]; simp) with z | z | ⟨i, z⟩
      · exact absurd h.nz z
      · rw [h.at_] at z; cases z
      · exact absurd z (h.no i)
  · rcases x.ow i L e with ⟨j, z⟩ | z
    · exact h.no j z
    · rw [h.at_] at z; cases z
theorem LooseO.put {K : PySem.W.Frag} {g : Gh} {ρ : Rho} {σ : St} {H : Hp} {L : Addr} {u o : HO} (h : LooseO g H L u) (G : Rel K g ρ σ H) : Rel K g ρ σ (upd H L o) := by
  refine ⟨G.len, fun b u e => ?_, fun i w e => ?_, G.emp, G.nz, G.inj⟩
  · have hb : b ≠ L := fun z => by rw [z, h.nz] at e; cases e
    rw [upd_ne hb]; exact G.sub b u e
  · obtain ⟨v, hv, r⟩ := G.at_ i w e
    exact ⟨v, hv, r.stay (fun _ _ h => h) fun a u ea q => by
      have hb : a ≠ L := fun z => h.no i (by rw [← z]; exact ea)
      rw [upd_ne hb]; exact q⟩
theorem LooseO.new {K : PySem.W.Frag} {g : Gh} {ρ : Rho} {σ : St} {H : Hp} {p : Addr} {o : HO} (G : Rel K g ρ σ H) (hp : H p = none) : LooseO g (upd H p o) p o := by
  refine ⟨upd_same, ?_, fun i e => ?_⟩
  · cases q : g.Z p with
    | none => rfl
    | some u => rcases G.sub p u q with z | ⟨_, _, z⟩ <;> rw [hp] at z <;> cases z
  · obtain ⟨u, z⟩ := G.alive e
    rw [hp] at z; cases z
/-- folding, seen at the values -/
theorem foldP_ok {K : PySem.W.Frag} {Z : Hp} : ∀ {ps : List (D × D)} {vs : List (V × V)} {kk : List Key} {ds : List D} {us : List V} {r : List KK × List D}, RepPs K Z ps vs → RepL K Z ds us → kk.length = us.length → kk.Nodup → foldP ps (kk.map Sum.inl) ds = some r →
    ∃ (kvs : List (Key × V)) (kk' : List Key) (us' : List V), vs = kvs.map (fun kv => (kV kv.1, kv.2)) ∧ mergeK (kk.zip us) kvs = kk'.zip us' ∧ r.1 = kk'.map Sum.inl ∧ RepL K Z r.2 us' ∧ kk'.length = us'.length ∧ kk'.Nodup
  | [], vs, kk, ds, us, r, h, rl, hl, nd, e => by
    cases h
    cases e
    exact ⟨[], kk, us, rfl, rfl, rfl, rl, hl, nd⟩
  | (k, d) :: ps, vs, kk, ds, us, r, h, rl, hl, nd, e => by
    cases h with
    | @cons _ _ x y _ vs h1 h2 h3 =>
      obtain ⟨q, hq, e⟩ := Option.bind_eq_some_iff.mp e
      have k2 : ∃ w : Key, q = .inl w ∧ x = kV w := by
        cases k with
        | int i => cases hq; unfold RepD at h1; exact ⟨.inl i, rfl, h1⟩
        | str x => cases hq; unfold RepD at h1; exact ⟨.inr x, rfl, h1⟩
        | _ => cases hq
      obtain ⟨w, rfl, rfl⟩ := k2
      obtain ⟨e1, e2⟩ := dput_rep (k := w) h2 rl hl
      rw [e1] at e
      obtain ⟨kvs, kk', us', z1, z2, z3, z4, z5, z6⟩ := foldP_ok h3 e2 (vput_len hl) ((vput_keys hl).2 nd) e
      refine ⟨(w, y) :: kvs, kk', us', by rw [z1]; rfl, ?_, z3, z4, z5, z6⟩
      rw [← z2]
      show mergeK (putK (kk.zip us) w y) kvs = _
      rw [putK_zip hl nd]
section
variable {X : Cx} {Wx : WX} {io : List Nat} {pos : Pos} {k v : Expr} {ks : List (Option Expr)} {vs : List Expr} {f h : Rho → Rs R} {fs : List ((Rho → Rs R) × (Rho → Rs R))}
theorem SPs_nil : SPs X Wx io pos [] [] [] := pps_nil
theorem SPs_cons (hk : SE X Wx io k f) (hv : SE X Wx io v h) (hr : SPs X Wx io pos ks vs fs) : SPs X Wx io pos (some k :: ks) (v :: vs) ((f, h) :: fs) := pps_cons hk hv hr
theorem SE_dic0 : SE X Wx io (.Dict [] [] pos) evDic0 := PE.imp pe_dnewK fun σ H Q ⟨ρ, g, hio, G, q⟩ p hp => by
  have nw := (NewOk.fresh G.sub (o := .dK []) hp).1
  obtain ⟨ex, G'⟩ := nw.ext G
  refine q (.ref p) _ _ ex G' ⟨p, ⟨p, [], rfl, rfl, ⟨rfl, List.nodup_nil, .inl ⟨[], rfl, upd_same⟩⟩, .nil⟩, (NewOk.fresh G.sub (o := .dK []) hp).2, (LooseO.new (o := .dK []) G hp).no, hp⟩
theorem pairs_run {c : Ct} {γ δ : Type} {σ : St} : ∀ {fs : List ((Rho → Rs R) × (Rho → Rs R))} {g g1 : Gh} {ρ : Rho} {H H1 : Hp} {k : List (D × D) → Rho → Rs γ} {rep' : Gh → Hp → γ → δ → Prop} {Q : δ → Hp → Prop} {T : List (V × V) → Hp → Prop}, g.io = c.io → Ext g H g1 H1 → Rel c.K g1 ρ σ H1 →
    Post c g σ H rep' Q ((evPairs c.io fs ρ).bind k) → (∀ ps ρ2 g2 vs H2, Ext g1 H1 g2 H2 → Rel c.K g2 ρ2 σ H2 → RepPs c.K g2.Z ps vs → Post c g σ H rep' Q (k ps ρ2) → T vs H2) → tPairs (fs.map fun p => (tS c p.1, tS c p.2)) σ H1 T
  | [], g, g1, ρ, H, H1, k, rep', Q, T, hio, x1, G, p, n => n [] ρ g1 [] H1 (.refl g1 H1) G .nil p
  | (f, h) :: fs, g, g1, ρ, H, H1, k, rep', Q, T, hio, x1, G, p, n => by
    have p0 : Post c g σ H rep' Q ((f ρ).bind fun r ρ1 => ((freeze c.io r ρ1).bind fun kd ρ2 => (h ρ2).bind fun q ρ3 => (freeze c.io q ρ3).bind fun d ρ4 => (evPairs c.io fs ρ4).bind fun ps ρ5 => Rs.ok ((kd, d) :: ps) ρ5).bind k) := by
      unfold evPairs at p
      cases e : f ρ with
      | stuck => rw [e] at p; exact p
      | exc => rw [e] at p; exact p
      | ok a b => rw [e] at p; exact p
    refine tS.bind hio x1 G p0 fun r ρ1 g2 v H2 x12 x2 G2 r1 p1 => ?_
    have as1 : ∀ {β : Type} (x : Rs D) (m : D → Rho → Rs β) (k' : β → Rho → Rs γ), (x.bind m).bind k' = x.bind fun a ρ => (m a ρ).bind k' := by
      intro β x m k'; cases x <;> rfl
    rw [as1] at p1
    have io1 : g1.io = c.io := x1.io.trans hio
    rcases freeze_ok x12 G2 r1 with e | ⟨kd, ρ2, g3, e, x3, G3, rd⟩
    · rw [io1] at e; rw [e] at p1; exact p1.elim
    rw [io1] at e
    rw [e] at p1
    have p2 : Post c g σ H rep' Q ((h ρ2).bind fun q ρ3 => ((freeze c.io q ρ3).bind fun d ρ4 => (evPairs c.io fs ρ4).bind fun ps ρ5 => Rs.ok ((kd, d) :: ps) ρ5).bind k) := by
      have p1 : Post c g σ H rep' Q (((h ρ2).bind fun q ρ3 => (freeze c.io q ρ3).bind fun d ρ4 => (evPairs c.io fs ρ4).bind fun ps ρ5 => Rs.ok ((kd, d) :: ps) ρ5).bind k) := p1
      cases e : h ρ2 with
      | stuck => rw [e] at p1; exact p1
      | exc => rw [e] at p1; exact p1
      | ok a b => rw [e] at p1; exact p1
    refine tS.bind hio (x1.trans x3) G3 p2 fun q ρ3 g4 u H4 x34 x4 G4 r2 p3 => ?_
    rw [as1] at p3
    have io3 : g3.io = c.io := x3.io.trans io1
    rcases freeze_ok x34 G4 r2 with e | ⟨d, ρ4, g5, e, x5, G5, rd2⟩
    · rw [io3] at e; rw [e] at p3; exact p3.elim
    rw [io3] at e
    rw [e] at p3
    have p4 : Post c g σ H rep' Q ((evPairs c.io fs ρ4).bind fun ps ρ5 => k ((kd, d) :: ps) ρ5) := by
      have p3 : Post c g σ H rep' Q (((evPairs c.io fs ρ4).bind fun ps ρ5 => Rs.ok ((kd, d) :: ps) ρ5).bind k) := p3
      cases e : evPairs c.io fs ρ4 with
      | stuck => rw [e] at p3; exact p3
      | exc => rw [e] at p3; exact p3
      | ok a b => rw [e] at p3; exact p3
    refine pairs_run (fs := fs) hio ((x1.trans x3).trans x5) G5 p4 fun ps ρ5 g6 vs H6 x6 G6 rp p5 => ?_
    exact n _ ρ5 g6 _ H6 (x3.trans (x5.trans x6)) G6 (.cons (rd.sub (.of (x5.trans x6).z)) (rd2.sub (.of x6.z)) rp) p5
theorem RepPs.length {K : PySem.W.Frag} {Z : Hp} {ps : List (D × D)} {vs : List (V × V)} (h : RepPs K Z ps vs) : ps.length = vs.length := by
  induction h with
  | nil => rfl
  | cons _ _ _ ih => simp [ih]
theorem SE_dic {ks : List (Option Expr)} (hp : SPs X Wx io pos ks vs fs) (hall : ks.all (·.isSome) = true) (hl : ks.length = vs.length) (h0 : ks ≠ []) (h15 : ks.length ≤ 15) (hf : fs.length ≤ 15) : SE X Wx io (.Dict ks vs pos) (evDic io fs) :=
  PE.imp (pe_disp hp hall hl h0 h15) fun σ H Q ⟨ρ, g, hio, G, q⟩ p hp => by
    have nf := NewOk.fresh G.sub (o := .dK []) hp
    obtain ⟨ex, G0⟩ := nf.1.ext G
    have lo := LooseO.new (o := .dK []) G hp
    refine pairs_run (c := ⟨X.K, Wx, io⟩) hio ex G0 q fun ps ρ2 g2 us H2 x2 G2 rp p2 => ?_
    have lo2 := LooseO.ext (g := ⟨g.Z, g.own, g.io⟩) ⟨lo.at_, lo.nz, lo.no⟩ x2
    refine ⟨lo2.at_, ?_⟩
    by_cases hl : ps.length ≤ 15
    · have p2 : Post ⟨X.K, Wx, io⟩ g σ H (repR ⟨X.K, Wx, io⟩ σ H) Q (if ps.length ≤ 15 then opt ((foldP ps [] []).map fun r => .tmp (.dic r.1 r.2)) ρ2 else .stuck) := p2
      rw [if_pos hl] at p2
      cases e : foldP ps [] [] with
      | none => rw [e] at p2; exact p2.elim
      | some r =>
        rw [e] at p2
        obtain ⟨kvs, kk', us', z1, z2, z3, z4, z5, z6⟩ := foldP_ok (kk := []) (ds := []) (us := []) rp .nil rfl List.nodup_nil e
        refine ⟨kvs, z1, by rw [← List.length_map (f := fun kv : Key × V => (kV kv.1, kv.2)), ← z1, ← rp.length]; exact hl, ?_⟩
        have ez : mergeK [] kvs = kk'.zip us' := z2
        rw [ez]
        have x02 : Ext g H g2 H2 := ex.trans x2
        refine p2 (.ref p) (upd H2 p (.dK (kk'.zip us'))) g2 (x02.put hp) (lo2.put G2) ⟨p, ⟨p, us', rfl, rfl, ⟨by rw [z3, List.length_map]; exact z5, by rw [z3]; exact nodup_inl' z6, .inl ⟨kk', z3, upd_same⟩⟩, z4⟩, lo2.nz, lo2.no, hp⟩
    · have p2 : Post ⟨X.K, Wx, io⟩ g σ H (repR ⟨X.K, Wx, io⟩ σ H) Q (if ps.length ≤ 15 then opt ((foldP ps [] []).map fun r => .tmp (.dic r.1 r.2)) ρ2 else .stuck) := p2
      rw [if_neg hl] at p2; exact p2.elim
end
end Spl

namespace Spl
open PySem PySem.Spec L2
open PyProof.Rows

/-! a law's end, the guarded promise -/
theorem law_endG {P : Program} {w : World} {K : PySem.W.Frag} {mg mb : Str → Option Value} {k : Nat} {fa a : Addr} {fd : FuncData} {x : Str} {sp : Sp} {s : Shared} {us : List Value} {ns : List Int}
    (kIn : K.In s.heap) (gl : s.heap.Ns mainGlobals mg) (bn : s.heap.Ns builtinsNs mb) (bb : ∀ x : Str, x ≠ "__name__" → mb x = bootBuiltins x) (lim : s.heap.NoLimit) (gens : s.gens = #[])
    (obj : s.heap.get? a = some { cls := .type "list", data := .seq us.toArray }) (hi : IntsAre us ns) (size : ns.length ≤ sizeLine) (room : Room k callerA)
    (F : ∀ base : Heap, K.In base → base.Ns mainGlobals mg → FnG P w K mg base k fa fd [x] sp) (bind : ∀ (s : Shared) (u : Value), BindsTo s fd ⟨[u], []⟩ [(x, u)])
    (promise : ∀ H : Hp, SqL K H a (ns.map V.int) → sp [.ref a] H (fun v _ => v = .bl true) fun _ _ _ => False) :
    codeAny (model P w) callerA (.call (.ref fa) ⟨[.ref a], []⟩) (fun r s' => r = .ok (.ret (.bool true)) ∧ OldK s.heap s'.heap ∧ s'.os = s.os ∧ AllBare s'.gens) s := by
  have rel := vals_ints hi
  have lenE := hi.length
  have main : ∀ H : Hp, Only H → SqL K H a (ns.map V.int) → HOk P w H s.heap → (∀ b, H b ≠ none → b = a) → (H a ≠ none → K.lookup a = none) →
      codeAny (model P w) callerA (.call (.ref fa) ⟨[.ref a], []⟩) (fun r s' => r = .ok (.ret (.bool true)) ∧ OldK s.heap s'.heap ∧ s'.os = s.os ∧ AllBare s'.gens) s := by
    intro H only sq ok one apart
    have low : ∀ {b : Addr} {o : Obj}, s.heap.get? b = some o → H b = none → (hidT s.heap H).get? b = some o := fun e n => hidT_get e n
    have free : ∀ {b : Addr} {o : Obj} {es : Array DictEntry} {ep : Nat}, s.heap.get? b = some o → o.data = .dict es ep → H b = none := by
      intro b o es ep e d
      cases q : H b with
      | none => rfl
      | some u =>
        exfalso
        have eb : b = a := one b (by rw [q]; simp)
        rw [eb, obj] at e
        cases e
        exact nomatch (show Data.seq us.toArray _ = Data.dict es ep from d)
    have keepNs : ∀ {b : Addr} {m : Str → Option Value}, s.heap.Ns b m → (hidT s.heap H).Ns b m := by
      rintro b m ⟨o, es, ep, e, d, r⟩
      exact ⟨o, es, ep, low e (free e d), d, r⟩
    have baseK : K.In (hidT s.heap H) := by
      intro b o e
      refine low (kIn b o e) ?_
      cases q : H b with
      | none => rfl
      | some u =>
        exfalso
        have eb : b = a := one b (by rw [q]; simp)
        rw [eb] at q e
        rw [apart (by rw [q]; simp)] at e
        cases e
    obtain ⟨mc, l1, l2⟩ := lim
    have mod : Mod K mg (hidT s.heap H) := ⟨baseK, keepNs gl, ⟨mb, keepNs bn, bb⟩, ⟨mc, keepNs l1, l2⟩⟩
    have env : Env0 P w K mg (hidT s.heap H) callerA [] s H := ⟨rfl, mod, fun b o e => of_hidT e, Nat.le_of_eq (hidT_size _ _), trivial, (fun b hb => absurd hb (by simp [frs])), ok, .of_eq gens⟩
    refine codeAny_mono ((F _ baseK (keepNs gl)).go callerA [] s H ⟨[.ref a], []⟩ [.ref a] [.ref a] _ _ room rfl env (bind s (.ref a)) (.cons rfl .nil) (promise H sq)) ?_
    rintro r s' h
    cases r with
    | error e =>
      obtain ⟨_, _, _, _, _, _, _, _, _, _, _, _, f⟩ := (show L2.CX P w [] H s (fun _ _ _ => False) e s' from h)
      exact f.elim
    | ok fl =>
      cases fl with
      | next => exact h.elim
      | brk => exact h.elim
      | cont => exact h.elim
      | ret u =>
        obtain ⟨v, H', os, bare, un, ok', rv, ev⟩ := h
        have ev : v = .bl true := ev
        rw [ev] at rv
        obtain rfl : u = Value.bool true := rv
        refine ⟨rfl, OldK.of_keep fun b o e => ?_, os, bare⟩
        cases q : H b with
        | none => exact un.keep b o e q (fun z => nomatch z) (by simp)
        | some t =>
          rcases only b with z | ⟨ob, xs, z⟩
          · rw [q] at z; cases z
          · obtain ⟨e1, _⟩ := ok b _ z
            obtain ⟨e2, _⟩ := ok' b _ (un.frzs b ob _ z)
            rw [e] at e1
            cases e1
            exact e2
  cases q : K.lookup a with
  | some o =>
    have e := kIn a o q
    rw [obj] at e
    cases e
    exact main (fun _ => none) (fun _ => .inl rfl) (.inr ⟨_, us.toArray, _, q, rfl, rfl, rfl, by rw [List.size_toArray, lenE]; exact size, by simpa using rel⟩) (fun b u z => nomatch (show (none : Option HO) = some u from z)) (fun b z => absurd rfl z) (fun z => absurd rfl z)
  | none =>
    have at_a : (fun b => if b = a then some (HO.frz { cls := .type "list", data := .seq us.toArray } (.lst (ns.map V.int))) else none : Hp) a = some (HO.frz { cls := .type "list", data := .seq us.toArray } (.lst (ns.map V.int))) := if_pos rfl
    refine main (fun b => if b = a then some (.frz { cls := .type "list", data := .seq us.toArray } (.lst (ns.map V.int))) else none) (fun b => ?_) (.inl (.inr ⟨_, at_a⟩)) (fun b u z => ?_) (fun b z => Classical.byContradiction fun n => z (if_neg n)) (fun _ => q)
    · by_cases hb : b = a
      · exact .inr ⟨_, _, if_pos hb⟩
      · exact .inl (if_neg hb)
    · by_cases hb : b = a
      · subst hb
        have z := at_a.symm.trans z
        cases z
        exact ⟨obj, by rw [List.length_map]; exact size, us, _, rel, obj⟩
      · exact nomatch (if_neg hb).symm.trans z
/-- the law, walked: its function of data answers True at every script -/
theorem law_walkG {l : PySem.W.OpenLaw} {n k : Nat} {q : Program} {loose : List Str} {XP : (Str → Option Value) → Heap → Prop} {YP : World → Heap → Prop} {d : DefRec} {x : Str} {Fl : Fn}
    (hn : l.most = some n) (hn2 : n ≤ sizeLine) (hdf : d.params.defaults = []) (hr : Room k callerA) (ans : ∀ ns : List Int, ns.length ≤ n → (∀ m ∈ ns, Builtin.Int.intBits m ≤ 1048576) → ∃ io, Fl [.dat (.scr ns)] = .ret (.dat (.bl true)) io)
    (F : ∀ (w : World) (mg : Str → Option Value) (fa : Addr) (h : Heap), YP w h → h.Ns mainGlobals mg → mg d.name = some (.ref fa) →
      ∃ (K : PySem.W.Frag) (fd : FuncData), K.In h ∧ (∀ (s : Shared) (u : Value), BindsTo s fd ⟨[u], []⟩ [(x, u)]) ∧ ∀ base : Heap, K.In base → base.Ns mainGlobals mg → FnG l.prog w K mg base k fa fd [x] (spF K Fl)) :
    PySem.W.WalkO q loose XP YP l.row.toRowW d [] (fun f vs => PySem.call f vs) := by
  refine Att.attach_callB hn hdf fun w s₀ s₁ mg mb fa o pm cd doc a vs ns G Y ho hd hcd hmg hobj hi hlen hbits hg => ?_
  obtain ⟨K, fd, KX, hb, hF⟩ := F w mg fa _ Y G.T.g hmg
  refine law_endG KX G.T.g G.T.b G.T.builtins G.T.nolimit hg hobj hi (Nat.le_trans hlen hn2) hr hF hb fun H sq => ?_
  obtain ⟨io, e⟩ := ans ns hlen hbits
  have lk : ∀ i w, look ([some (W.dat (.scr ns))] : Rho) i = some w → i = 0 ∧ w = .dat (.scr ns) := by
    intro i w h
    cases i with
    | zero => cases h; exact ⟨rfl, rfl⟩
    | succ i => exact nomatch (show (none : Option W) = some w from h)
  refine ⟨⟨H, fun _ => none, []⟩, [.dat (.scr ns)], rfl, ⟨rfl, .refl H, fun i w h => ?_, fun _ _ => rfl, (fun i a h => nomatch h), (fun i j a h => nomatch h)⟩, ?_⟩
  · obtain ⟨rfl, rfl⟩ := lk i w h
    exact ⟨.ref a, rfl, rfl, by unfold RepD; exact ⟨a, rfl, sq⟩⟩
  · rw [e]
    intro v H' Z' o b r _
    have r := r.2
    unfold RepD at r
    exact r
end Spl

namespace Spl
open PySem PySem.Spec L2
open PyProof.Rows

/-! short words for the walks -/
theorem bt_len : bootBuiltins "len" = some (.builtin "len") := by decide +kernel
theorem bt_abs : bootBuiltins "abs" = some (.builtin "abs") := by decide +kernel
theorem bt_min : bootBuiltins "min" = some (.builtin "min") := by decide +kernel
theorem bt_max : bootBuiltins "max" = some (.builtin "max") := by decide +kernel
theorem bt_sum : bootBuiltins "sum" = some (.builtin "sum") := by decide +kernel
theorem bt_all : bootBuiltins "all" = some (.builtin "all") := by decide +kernel
theorem bt_any : bootBuiltins "any" = some (.builtin "any") := by decide +kernel
theorem bt_sorted : bootBuiltins "sorted" = some (.builtin "sorted") := by decide +kernel
theorem bt_repr : bootBuiltins "repr" = some (.builtin "repr") := by decide +kernel
theorem bt_divmod : bootBuiltins "divmod" = some (.builtin "divmod") := by decide +kernel
theorem bt_isinstance : bootBuiltins "isinstance" = some (.builtin "isinstance") := by decide +kernel
theorem bt_int : bootBuiltins "int" = some (.type "int") := by decide +kernel
theorem bt_bool : bootBuiltins "bool" = some (.type "bool") := by decide +kernel
theorem bt_str : bootBuiltins "str" = some (.type "str") := by decide +kernel
theorem bt_tuple : bootBuiltins "tuple" = some (.type "tuple") := by decide +kernel
theorem bt_list : bootBuiltins "list" = some (.type "list") := by decide +kernel
theorem bt_dict : bootBuiltins "dict" = some (.type "dict") := by decide +kernel
theorem bt_set : bootBuiltins "set" = some (.type "set") := by decide +kernel
theorem takesF {X : Cx} : Takes X WF := fun u s' ⟨_, _, _, _, _, _, _, _, _, _, _, _, _, _, _, _, f⟩ => f.elim
theorem room65 {k : Nat} {A : Around} (r : Room k A) : A.units + 65 < cLine := by have := r.un; omega
theorem PI.or {X : Cx} {tg e : Expr} {t u : TI} (h : PI X tg e t) (k : PI X tg e u) : PI X tg e fun σ H R => t σ H R ∨ u σ H R := ⟨fun pins s σ H Q I q => q.elim (h.run pins s σ H Q I) (k.run pins s σ H Q I)⟩
section
variable {X : Cx} {Wx : WX} {io : List Nat} {tg e : Expr} {f : Rho → Rs R}
/-- a list or a tuple, told by what comes out -/
theorem SI_seq (he : SE X Wx io e f) : SI X Wx io tg e (itSeq io f) := PI.imp (PI.or (SI_lst he) (SI_tup he)) fun σ H Q ⟨ρ, g, hio, G, q⟩ => by
  unfold itSeq at q
  cases e1 : f ρ with
  | stuck => rw [e1] at q; exact q.elim
  | exc cn ns ds ρ1 => exact .inl ⟨ρ, g, hio, G, by unfold itLst; rw [e1] at q ⊢; exact q⟩
  | ok r ρ1 =>
    cases e2 : freeze io r ρ1 with
    | stuck =>
      rw [e1] at q
      have q : Post ⟨X.K, Wx, io⟩ g σ H (repWk ⟨X.K, Wx, io⟩) Q ((freeze io r ρ1).bind fun d ρ2 => opt d.items ρ2) := q
      rw [e2] at q; exact q.elim
    | exc => exact absurd e2 freeze_nox
    | ok d ρ2 =>
      by_cases ht : d.isTup = true
      · refine .inr ⟨ρ, g, hio, G, ?_⟩
        unfold itTup
        have z : ((f ρ).bind fun r ρ1 => (freeze io r ρ1).bind fun d ρ2 => opt (if d.isTup = true then d.items else none) ρ2) = ((f ρ).bind fun r ρ1 => (freeze io r ρ1).bind fun d ρ2 => opt d.items ρ2) := by
          rw [e1]
          show ((freeze io r ρ1).bind _) = ((freeze io r ρ1).bind _)
          rw [e2]
          show opt (if d.isTup = true then d.items else none) ρ2 = _
          rw [if_pos ht]; rfl
        rw [z]; exact q
      · refine .inl ⟨ρ, g, hio, G, ?_⟩
        unfold itLst
        have z : ((f ρ).bind fun r ρ1 => (freeze io r ρ1).bind fun d ρ2 => opt (if d.isTup = true then none else d.items) ρ2) = ((f ρ).bind fun r ρ1 => (freeze io r ρ1).bind fun d ρ2 => opt d.items ρ2) := by
          rw [e1]
          show ((freeze io r ρ1).bind _) = ((freeze io r ρ1).bind _)
          rw [e2]
          show opt (if d.isTup = true then none else d.items) ρ2 = _
          rw [if_neg ht]; rfl
        rw [z]; exact q
end
def itEnumA (h : Rho → Rs (List D)) (ρ : Rho) : Rs (List D) := (h ρ).bind fun ds ρ1 => match ds with
  | [d] => (opt d.items ρ1).bind fun xs ρ2 => .ok (enumFrom 0 xs) ρ2
  | _ => .stuck
theorem SI_enum {X : Cx} {Wx : WX} {io : List Nat} {e : Expr} {h : Rho → Rs (List D)} {p pos tpos : Pos} {elts : List Expr} {kk : Nat} (hg : Gl X "enumerate") (hm : X.mg "enumerate" = none) (ha : SL X Wx io [e] h) (hs : starEach [e] X.env = [(false, eval e X.env)]) :
    SI X Wx io (.Tuple elts kk tpos) (.Call (.Name "enumerate" p) [e] [] pos) (itEnumA h) := PI.imp (PI.or (SI_enumL hg hm ha hs) (SI_enumT hg hm ha hs)) fun σ H Q ⟨ρ, g, hio, G, q⟩ => by
  unfold itEnumA at q
  cases e1 : h ρ with
  | stuck => rw [e1] at q; exact q.elim
  | exc cn ns ds ρ1 => exact .inl ⟨ρ, g, hio, G, by unfold itEnum; rw [e1] at q ⊢; exact q⟩
  | ok ds ρ1 =>
    match ds, e1 with
    | [d], e1 =>
      by_cases ht : d.isTup = true
      · refine .inr ⟨ρ, g, hio, G, ?_⟩
        unfold itEnum
        rw [e1] at q ⊢
        show Post ⟨X.K, Wx, io⟩ g σ H (repWk ⟨X.K, Wx, io⟩) Q (if d.isTup = true then (opt d.items ρ1).bind fun xs ρ2 => .ok (enumFrom 0 xs) ρ2 else .stuck)
        rw [if_pos ht]; exact q
      · refine .inl ⟨ρ, g, hio, G, ?_⟩
        have ht : d.isTup = false := by simpa using ht
        unfold itEnum
        rw [e1] at q ⊢
        show Post ⟨X.K, Wx, io⟩ g σ H (repWk ⟨X.K, Wx, io⟩) Q (if d.isTup = false then (opt d.items ρ1).bind fun xs ρ2 => .ok (enumFrom 0 xs) ρ2 else .stuck)
        rw [if_pos ht]; exact q
    | [], e1 => rw [e1] at q; exact q.elim
    | _ :: _ :: _, e1 => rw [e1] at q; exact q.elim
/-- keywords, bound -/
theorem kp_of {K : PySem.W.Frag} {x qual : Str} {params : Arguments} {body : List Stmt} {scope : Scope} {f : Addr} {fd : FuncData} {ps : List Str} (F : FunD K x qual params body scope [] [] f fd) (n : Nat) (ks : List Str) (π : List Nat)
    (h : ∀ (kV doc pm : Value) (an : Option Addr) (cdv ct : Value) (us ws : List Value), us.length = n → ws.length = ks.length → bindArgs (PySem.W.fnOf x qual params body scope .none kV doc pm an cdv ct) ⟨us, ks.zip ws⟩ = pure (ps.zip (pick π (us ++ [] ++ ws)))) : KP K fd ps n ks π [] := by
  obtain ⟨oc, od, dV, kV, doc, pm, an, cdv, ct, osl, rfl, lk, hcd, hD, _⟩ := F.ex
  rcases hD with ⟨_, rfl⟩ | ⟨e, _⟩
  · exact ⟨fun s us ws _ l1 l2 => BindsTo.of_eq (h kV doc pm an cdv ct us ws l1 l2)⟩
  · exact absurd rfl e
/-! xs[::-1] of a list; of a tuple -/
def revDT : D → Option R := revD
theorem SE_revA {X : Cx} {Wx : WX} {io : List Nat} {a : Expr} {f : Rho → Rs R} {k : Nat} {p1 p2 p3 pos : Pos} (ha : SE X Wx io a f) : SE X Wx io (.Subscript a (.Slice none none (some (.UnaryOp .USub (.Constant (.int 1) k p1) p2)) p3) pos) (ev1 revDT f) := SE_rev ha
/-! list of what -/
def listDD : D → Option R
  | .dic ks ds => if allInl ks = true then some (.tmp (.lst ((outInl ks).map D.keyD))) else none
  | d => listD d
theorem keys_rep {K : PySem.W.Frag} {Z : Hp} : ∀ kk : List Key, RepL K Z (kk.map D.keyD) (kk.map kV)
  | [] => .nil
  | k :: kk => .cons keyD_v (keys_rep kk)
theorem zip_keys : ∀ {kk : List Key} {vs : List V}, kk.length = vs.length → ((kk.zip vs).map fun kv => kV kv.1) = kk.map kV
  | [], [], _ => rfl
  | [], _ :: _, h => by simp at h
  | _ :: _, [], h => by simp at h
  | k :: kk, v :: vs, h => by rw [List.zip_cons_cons, List.map_cons, List.map_cons, zip_keys (by simpa using h)]
theorem c_listD {X : Cx} (hc : X.calm = true) : CallR X (.type "list") (rOs X.K (op1 listDD)) := by
  refine CallR.split1 fun d r h => ?_
  cases d with
  | dic ks ds =>
    have h : (if allInl ks = true then some (R.tmp (.lst ((outInl ks).map D.keyD))) else none) = some r := h
    by_cases ha : allInl ks = true
    · rw [if_pos ha] at h
      cases h
      refine CallR.imp (call_listD hc) ?_
      rintro vs H Q ⟨Z, v, ev, s, ⟨a, us, rfl, di, rx⟩, q⟩
      obtain ⟨kk, rfl, hl, nd, r⟩ := di.plain ha
      refine ⟨a, _, ev, r, ?_⟩
      rw [zip_keys hl]
      rw [unInl] at q
      exact q_lst s q (keys_rep kk)
    · rw [if_neg ha] at h; cases h
  | lst xs => cases h; exact CallR.imp call_list_of fun vs H Q ⟨Z, v, ev, s, ⟨a, us, e1, l, rx⟩, q⟩ => ⟨a, us, by rw [ev, e1], .inl (.of l), q_lst s q rx⟩
  | tup xs => cases h; exact CallR.imp call_list_of fun vs H Q ⟨Z, v, ev, s, ⟨a, us, e1, l, rx⟩, q⟩ => ⟨a, us, by rw [ev, e1], .inr (s.sqT l), q_lst s q rx⟩
  | scr xs => cases h; exact CallR.imp call_list_of fun vs H Q ⟨Z, v, ev, s, ⟨a, e1, l⟩, q⟩ => ⟨a, _, by rw [ev, e1], .inl l, q_lst s q RepL.intsOf⟩
  | _ => cases h
end Spl

namespace Spl
open PySem PySem.Spec L2
open PyProof.Rows

/-! dict of pairs -/
def pairsOf : List D → Option (List (D × D))
  | [] => some []
  | .tup [k, d] :: r => (pairsOf r).map ((k, d) :: ·)
  | _ :: _ => none
def dictD : D → Option R
  | .lst xs => (pairsOf xs).bind fun ps => (foldP ps [] []).map fun r => .tmp (.dic r.1 r.2)
  | _ => none
theorem pairs_rep {K : PySem.W.Frag} {Z H : Hp} (s : Sub Z H) : ∀ {xs : List D} {vs : List V} {ps : List (D × D)}, RepL K Z xs vs → pairsOf xs = some ps → ∃ (as : List Addr) (qs : List (V × V)), vs = as.map V.ref ∧ RepPs K Z ps qs ∧ Paired (fun a q => SqT K H a [q.1, q.2]) as qs
  | [], vs, ps, r, e => by
    cases e
    unfold RepL at r
    exact ⟨[], [], r, .nil, .nil⟩
  | d :: xs, vs, ps, r, e => by
    unfold pairsOf at e
    split at e
    · rename_i z; cases z
    · rename_i k d' r' z
      cases z
      obtain ⟨ps', e2, rfl⟩ := Option.map_eq_some_iff.mp e
      unfold RepL at r
      obtain ⟨v, t, rfl, r1, r2⟩ := r
      unfold RepD at r1
      obtain ⟨a, us, rfl, sq, rl⟩ := r1
      unfold RepL at rl
      obtain ⟨x, t1, rfl, h1, rl⟩ := rl
      unfold RepL at rl
      obtain ⟨y, t2, rfl, h2, rl⟩ := rl
      unfold RepL at rl
      subst rl
      obtain ⟨as, qs, e3, h3, h4⟩ := pairs_rep s r2 e2
      exact ⟨a :: as, (x, y) :: qs, by rw [e3]; rfl, .cons h1 h2 h3, .cons (s.sqT sq) h4⟩
    · cases e
theorem c_dict {X : Cx} (hc : X.calm = true) : CallR X (.type "dict") (rOs X.K (op1 dictD)) := by
  refine CallR.split1 fun d r h => ?_
  cases d with
  | lst xs =>
    obtain ⟨ps, e1, h⟩ := Option.bind_eq_some_iff.mp h
    obtain ⟨rr, e2, rfl⟩ := Option.map_eq_some_iff.mp h
    refine CallR.imp (call_dictP hc) ?_
    rintro vs H Q ⟨Z, v, ev, s, ⟨a, us, rfl, l, rx⟩, q⟩
    obtain ⟨as, qs, e3, h3, h4⟩ := pairs_rep s rx e1
    obtain ⟨kvs, kk', us', z1, z2, z3, z4, z5, z6⟩ := foldP_ok (kk := []) (ds := []) (us := []) h3 .nil rfl List.nodup_nil e2
    have ez : mergeK [] kvs = kk'.zip us' := z2
    refine ⟨a, as, kvs, ev, by rw [← e3]; exact .of l, ?_, fun p hp => ?_⟩
    · rw [z1] at h4
      have : ∀ {as : List Addr} {kvs : List (Key × V)}, Paired (fun a q => SqT X.K H a [q.1, q.2]) as (kvs.map fun kv => (kV kv.1, kv.2)) → Paired (fun p kv => SqT X.K H p [kV kv.1, kv.2]) as kvs := by
        intro as kvs
        induction kvs generalizing as with
        | nil => intro h; cases h; exact .nil
        | cons kv kvs ih =>
          intro h
          rw [List.map_cons] at h
          cases h with
          | cons h1 h2 => exact .cons h1 (ih h2)
      exact this h4
    · rw [ez]
      have nf := NewOk.fresh s (o := .dK (kk'.zip us')) hp
      exact q _ _ _ nf.1 ⟨p, ⟨p, us', rfl, rfl, ⟨by rw [z3, List.length_map]; exact z5, by rw [z3]; exact nodup_inl' z6, .inl ⟨kk', z3, upd_same⟩⟩, z4⟩, nf.2, hp⟩
  | _ => cases h

/-! sorted -/
def sortI (ns : List Int) : List Int := ns.mergeSort fun a b => decide (a ≤ b)
theorem sortI_perm (ns : List Int) : (sortI ns).Perm ns := List.mergeSort_perm ns _
theorem sortI_le (ns : List Int) : (sortI ns).Pairwise (· ≤ ·) := by
  have := List.pairwise_mergeSort (le := fun a b : Int => decide (a ≤ b)) (fun a b c h1 h2 => by simp at h1 h2 ⊢; omega) (fun a b => by simp; omega) ns
  exact this.imp fun {a b} h => by simpa using h
theorem sorted_uniq : ∀ {a b : List Int}, a.Perm b → a.Pairwise (· ≤ ·) → b.Pairwise (· ≤ ·) → a = b
  | [], b, p, _, _ => (List.Perm.nil_eq p)
  | x :: a, b, p, ha, hb => by
    cases b with
    | nil => exact absurd p.length_eq (by simp)
    | cons y b =>
      rw [List.pairwise_cons] at ha hb
      have h1 : x ≤ y := by
        rcases List.mem_cons.mp (p.mem_iff.mpr (List.mem_cons_self (a := y) (l := b))) with e | h
        · omega
        · exact ha.1 y h
      have h2 : y ≤ x := by
        rcases List.mem_cons.mp (p.mem_iff.mp (List.mem_cons_self (a := x) (l := a))) with e | h
        · omega
        · exact hb.1 x h
      have e : x = y := by omega
      subst e
      rw [sorted_uniq p.cons_inv ha.2 hb.2]
def intKeys : List KK → Option (List Int)
  | [] => some []
  | .inl (.inl i) :: r => (intKeys r).map (i :: ·)
  | _ :: _ => none
def sortedD : D → Option R
  | .lst xs => (D.intsOf xs).map fun ns => .tmp (.lst ((sortI ns).map D.int))
  | .scr ns => some (.tmp (.lst ((sortI ns).map D.int)))
  | .dic ks _ => (intKeys ks).map fun ns => .tmp (.lst ((sortI ns).map D.int))
  | _ => none
theorem intKeys_map : ∀ {ks : List KK} {ns : List Int}, intKeys ks = some ns → ks = (ns.map (Sum.inl : Int → Key)).map Sum.inl
  | [], ns, e => by cases e; rfl
  | .inl (.inl i) :: r, ns, e => by
    obtain ⟨ms, e2, rfl⟩ := Option.map_eq_some_iff.mp e
    rw [intKeys_map e2]; rfl
  | .inl (.inr _) :: r, ns, e => by cases e
  | .inr _ :: r, ns, e => by cases e
theorem allInl_of : ∀ kk : List Key, allInl (kk.map (Sum.inl : Key → KK)) = true
  | [] => rfl
  | k :: kk => allInl_of kk
/-- sorted(d), the keys ints, any number of them -/
theorem call_sortedKeys {X : Cx} (hcalm : X.calm = true) : CallR X (.builtin "sorted") (fun xs H Q => ∃ (a : Addr) (kvs : List (Key × V)) (ks : List Int), xs = [.ref a] ∧ Rd H a (.dK kvs) ∧ kvs.map (·.1) = ks.map Sum.inl ∧
    ∀ (ys : List Int) (p : Addr), ys.Perm ks → ys.Pairwise (· ≤ ·) → H p = none → Q (.ref p) (upd H p (.lst (ys.map V.int)))) := by
  intro pins s σ H xs us Q I r q
  obtain ⟨a, kvs, ks, ex, hd, hks, q⟩ := q
  subst ex
  obtain ⟨u, eu, rx⟩ := vals1 r
  subst eu
  cases rx
  obtain ⟨z, lo, vs, rel, dd⟩ := dk_rd I.hok hd
  obtain ⟨ep, hat⟩ := dd.dictAt
  have hkeys : vs.map (·.1) = ks.map Sum.inl := rel.keys.symm.trans hks
  have hl : vs.length = ks.length := by
    have e := congrArg List.length hkeys
    rw [List.length_map, List.length_map] at e
    exact e
  have h16 : vs.length ≤ sizeLine := by rw [← rel.length]; exact z
  refine Calls.call_function_entry kind_sorted plain_sorted entry_sorted (args_sorted1 _) ?_
  unfold Builtin.«sorted»
  refine wpAny_bind (m := checkCount "sorted" 1 1 _) (wpAny_pure ?_)
  refine wpAny_bind (PySem.W.kdu_collect (A := X.A.in1) (PySem.W.kdl_dict (knd := mixKind X.prog X.w) (kvs := vs) (ep := ep) lo) (I.ok.hd hcalm) hat h16 fun h' tk acc hk hacc => ?_)
  have hal : acc.toList.length = ks.length := by rw [Array.length_toList, hacc.1, hl]
  have hS : IntsAre acc.toList ks := ints_each hal fun j v e => by
    obtain ⟨k, x, e1, e2⟩ := hacc.2 j v (by rw [← Array.getElem?_toList]; exact e)
    have e3 : (vs.map (·.1))[j]? = some k := by rw [List.getElem?_map, e1]; rfl
    rw [hkeys, List.getElem?_map] at e3
    cases e4 : ks[j]? with
    | none => rw [e4] at e3; cases e3
    | some y =>
      rw [e4] at e3
      have e5 : Sum.inl y = k := Option.some.inj e3
      subst e5
      rcases keyIs_shape (show keyIs (Sum.inl y) v = true from e2) with ⟨i, t, ek, ev⟩ | ⟨z, t, ek, ev⟩
      · cases ek
        exact ⟨y, t, rfl, ev⟩
      · cases ek
  have I1 : Inv X pins σ H { s with heap := h', toks := tk } := I.kept hk
  have hz : acc.toList.length ≤ sizeLine := by rw [hal, ← hl]; exact h16
  refine wpAny_bind (wpAny_newList ?_ hz)
  have hoL : (h'.push (seqObj "list" acc.toList.toArray 0)).get? h'.objs.size = some (seqObj "list" acc.toList.toArray 0) := Heap.get?_push_size _ rfl
  show wpAny _ _ _ _ _ { s with heap := h'.push (seqObj "list" acc.toList.toArray 0), toks := tk }
  refine wpAny_bind (wpAny_holding (wpAny_call_entry slot_list_sort ⟨_, hoL, rfl⟩ entry_list_sort
    (SrtO.list_sort_ord (s := { s with heap := h'.push (seqObj "list" acc.toList.toArray 0), toks := tk }) SrtO.swo_int hoL hz (fun h2 => SrtO.ints_sortable hS h2) fun out h1 h2 => ⟨_, rfl, ?_⟩) (args_list_sort _)))
  obtain ⟨k1, k2, k3⟩ := SrtO.ints_out hS h1 h2
  obtain ⟨e', he'⟩ := sortedHeap_at (vs := acc.toList) (out := out.toArray) hoL
  have hlen : ((out.map SrtO.iv).map V.int).length ≤ sizeLine := by
    rw [List.length_map, k2.length_eq, ← hal]
    exact hz
  refine wpAny_pure ⟨_, rfl, .ref h'.objs.size, upd H h'.objs.size (.lst ((out.map SrtO.iv).map V.int)), I1.laid (t' := tk) (fun b u e => ?_) (Nat.le_refl _)
    (show ObjOk X.prog X.w _ _ _ (.lst ((out.map SrtO.iv).map V.int)) from ⟨hlen, out, e', vals_of_ints k1, he'⟩), rfl, q _ _ k2 k3 (I1.hok.fresh (Nat.le_refl _))⟩
  have hb : b < h'.objs.size := Heap.lt_size e
  rw [sortedHeap_old (Nat.ne_of_lt hb) (by rw [size_push']; exact Nat.lt_succ_of_lt hb)]
  exact Heap.get?_push_of_some _ e
theorem c_sorted {X : Cx} (hc : X.calm = true) : CallR X (.builtin "sorted") (rOs X.K (op1 sortedD)) := by
  refine CallR.split1 fun d r h => ?_
  have fin : ∀ {Z H : Hp} {Q : VK} {ns : List Int} (s : Sub Z H) (q : ∀ v H' Z', NewOk Z H Z' H' → RepN X.K H Z' H' (.tmp (.lst ((sortI ns).map D.int))) v → Q v H') (ys : List Int) (p : Addr), ys.Perm ns → ys.Pairwise (· ≤ ·) → H p = none → Q (.ref p) (upd H p (.lst (ys.map V.int))) := by
    intro Z H Q ns s q ys p h1 h2 hp
    have e : ys = sortI ns := sorted_uniq (h1.trans (sortI_perm ns).symm) h2 (sortI_le ns)
    rw [e]
    exact q_lst s q RepL.intsOf p hp
  cases d with
  | lst xs =>
    obtain ⟨ns, e1, rfl⟩ := Option.map_eq_some_iff.mp h
    exact CallR.imp cr_sortedI fun vs H Q ⟨Z, v, ev, s, ⟨a, us, e2, l, rx⟩, q⟩ => ⟨a, ns, by rw [ev, e2], by rw [← rx.ints e1]; exact .of l, fin s q⟩
  | scr ns =>
    cases h
    exact CallR.imp cr_sortedI fun vs H Q ⟨Z, v, ev, s, ⟨a, e2, l⟩, q⟩ => ⟨a, ns, by rw [ev, e2], l, fin s q⟩
  | dic ks ds =>
    obtain ⟨ns, e1, rfl⟩ := Option.map_eq_some_iff.mp h
    refine CallR.imp (call_sortedKeys hc) ?_
    rintro vs H Q ⟨Z, v, ev, s, ⟨a, us, rfl, di, rx⟩, q⟩
    have ek := intKeys_map e1
    subst ek
    obtain ⟨kk, e2, hl, nd, r⟩ := di.plain (allInl_of _)
    have e3 := inl_inj e2
    subst e3
    refine ⟨a, _, ns, ev, r, ?_, fin s q⟩
    rw [List.map_fst_zip (by rw [hl]; exact Nat.le_refl _)]
  | _ => cases h

/-! repr -/
def reprD (d : D) : Option R := match d with
  | .lst _ | .tup _ => if d.py.canLay0 = true ∧ d.py.showable = true ∧ d.py.depth ≤ 60 ∧ d.py.shown.length ≤ sizeLine then some (.val (.str d.py.shown)) else none
  | _ => none
theorem c_repr {X : Cx} (hg : X.A.guards = some []) (hu : X.A.units + 64 < cLine) : CallR X (.builtin "repr") (rOs X.K (op1 reprD)) := by
  refine CallR.split1 fun d r h => ?_
  have main : ∀ (a : Addr), (if d.py.canLay0 = true ∧ d.py.showable = true ∧ d.py.depth ≤ 60 ∧ d.py.shown.length ≤ sizeLine then some (R.val (.str d.py.shown)) else none) = some r → CallR X (.builtin "repr") (fun vs H Q => ∃ Z x, vs = [x] ∧ (∃ a, x = .ref a) ∧ Sub Z H ∧ RepU X.K Z H d x ∧ ∀ v H' Z', NewOk Z H Z' H' → RepN X.K H Z' H' r v → Q v H') := by
    intro _ h
    by_cases c : d.py.canLay0 = true ∧ d.py.showable = true ∧ d.py.depth ≤ 60 ∧ d.py.shown.length ≤ sizeLine
    · rw [if_pos c] at h
      cases h
      intro pins s σ H xs us Q I rv ⟨Z, x, ev, ⟨a, ea⟩, sb, u, q⟩
      subst ev ea
      obtain ⟨w, rfl, rw'⟩ := vals1 rv
      obtain rfl : w = Value.ref a := rw'
      obtain ⟨as, rd⟩ := Dp.reads I d.py _ _ ((u.repD sb).dp c.1) (show RelV (.ref a) (.ref a) from rfl)
      refine repr_of_reads' rd c.2.1 (PyData.noDict_hsm (PyData.hasDict_of_canLay _ c.1)) hg (by have := c.2.2.1; omega) (fun _ _ e => e) (fun h' t tk hk => ?_) c.2.2.2
      exact ⟨.str d.py.shown, H, I.kept hk, ⟨t, rfl⟩, q_val sb q repS⟩
    · rw [if_neg c] at h; cases h
  cases d with
  | lst xs => exact CallR.imp (main 0 h) fun vs H Q ⟨Z, v, ev, s, u, q⟩ => ⟨Z, v, ev, (let ⟨a, _, e, _⟩ := u; ⟨a, e⟩), s, u, q⟩
  | tup xs => exact CallR.imp (main 0 h) fun vs H Q ⟨Z, v, ev, s, u, q⟩ => ⟨Z, v, ev, (let ⟨a, _, e, _⟩ := u; ⟨a, e⟩), s, u, q⟩
  | _ => cases h
end Spl

namespace Spl
open PySem PySem.Spec L2
open PyProof.Rows
open L2.DX (itemsO itemsO_ok takeT)

section
variable {X : Cx} {Wx : WX} {io : List Nat} {elt tg iter e : Expr} {ifs : List Expr} {scope : Scope} {own : List (Str × Nat)} {pos spos py : Pos} {ft : D → Rho → Rs Unit} {fc : Rho → Rs Bool} {fe : Rho → Rs R} {wi : TE → TI} {J : Addr → Obj → List (Key × V) → It} {f : List Key → List D → List D} {i : Nat}
/-- name = [.. for .. in d] on one line -/
theorem SSt_setLcD {n : Nat} {y : Str} (w : DW wi J f) (hc : X.calm = true) (hN : X.N.Nodup) (hy : X.N[n]? = some y) (hyl : X.env.scope.names.lookup y = some .local) (hsw : swapsWith (.ListComp elt [⟨tg, iter, ifs, 0⟩] scope pos) (some (.Name y py)) spos.line X.env = pure true)
    (hi : PI X tg iter (wi (tVar i))) (ok : BlkOk X.N X.env.scope scope own)
    (hg : ∀ (s : Shared) (H : Hp) (C : Addr) (cl : List (Str × Addr)) (fp : List Addr), SG (X.blk s H scope (compEnvC scope cl C X.env) fp) WF io (own.map (·.2)) tg ft) (ht : ∀ (s : Shared) (H : Hp) (C : Addr) (cl : List (Str × Addr)) (fp : List Addr), STs (X.blk s H scope (compEnvC scope cl C X.env) fp) WF io ifs fc)
    (he : ∀ (s : Shared) (H : Hp) (C : Addr) (cl : List (Str × Addr)) (fp : List Addr), SE (X.blk s H scope (compEnvC scope cl C X.env) fp) WF io elt fe) (hs : ∀ x, foldedSetIterable iter X.env x = pure x) :
    SSt X Wx io (.Assign [.Name y py] (.ListComp elt [⟨tg, iter, ifs, 0⟩] scope pos) spos) (stSet io n (evLc io (own.map (·.2)) (itDic io i f) ft fc fe)) := by
  have base := ps_setLc (g := tSg ⟨X.K, WF, io⟩ (own.map fun p : Str × Nat => p.2) ft) (own := own) (tt := tT ⟨X.K, WF, io⟩ fc) (te := tS ⟨X.K, WF, io⟩ fe) hc hN hy hyl hsw hi ok hg ht he hs
  refine PS.imp (ps_or (ps_lock base) base) fun E σ H ⟨ρ, g, hio, G, q⟩ => ?_
  have q : PostS ⟨X.K, Wx, io⟩ g σ H E ((itDic io i f ρ).bind fun xs ρ1 => (if vsOk io (own.map (·.2)) ρ1 = true then (lcL io (own.map (·.2)) ρ1 ft fc fe xs ρ1 []).bind fun ds ρ2 => Rs.ok (R.tmp (.lst ds)) ρ2 else .stuck).bind fun r ρ1 => un (store io n r ρ1)) := by
    unfold stSet evLc at q
    cases e : itDic io i f ρ with
    | stuck => rw [e] at q; exact q
    | exc => rw [e] at q; exact q
    | ok xs ρ1 => rw [e] at q; exact q
  obtain ⟨g1, ρ1, d, kk, vs, ds, x1, G1, hv, rd, rl, hl, p⟩ := itDic_ok (c := ⟨X.K, Wx, io⟩) (γ := Fl) (δ := Unit) (rep' := fun _ _ _ _ => True) (P := PostS ⟨X.K, Wx, io⟩ g σ H E) (fun z => z) hio G q
  by_cases ov : vsOk io (own.map (·.2)) ρ1 = true
  · rw [if_pos ov] at p
    have no : ∀ i, g1.own i ≠ some d := fun j e => by
      have := G1.nz j d e
      rcases rd with r | ⟨o, r⟩ <;> rw [this] at r <;> cases r
    have fin : ∀ {ds : List D} {ρ2 : Rho} {H' : Hp} {g' : Gh} {acc : List V} {L : Addr}, PostS ⟨X.K, Wx, io⟩ g σ H E ((Rs.ok (R.tmp (.lst ds)) ρ2).bind fun r ρ1 => un (store io n r ρ1)) → Ext g H g' H' → Rel X.K g' ρ2 σ H' → H' L = some (.lst acc) → g'.Z L = none → (∀ i, g'.own i ≠ some L) → RepL X.K g'.Z ds acc → H L = none → E.nx (σ.set n (some (.ref L))) H' := by
      intro ds ρ2 H' g' acc L p x' G' h1 h2 h3 h4 h0
      exact PostS.stored (c := ⟨X.K, Wx, io⟩) hio x' G' (r := .tmp (.lst ds)) (v := .ref L) ⟨L, ⟨L, acc, rfl, rfl, h1, h4⟩, h2, h3, h0⟩ p
    rcases rd_frz_or G1.sub rd with ⟨hz, hd⟩ | ⟨o, hd⟩
    · refine .inl ⟨d, _, hd, trivial, fun od => ?_⟩
      have Gl := G1.lock (od := od) hz hd trivial
      refine w.intro_ i σ _ _ d od _ hv upd_same fun L hL => ?_
      have hLd : L ≠ d := fun z => by rw [z, upd_same] at hL; cases hL
      have hL' : H L = none := by rw [upd_ne hLd] at hL; exact hL
      have wk : Walk X.K g1 (upd H d (.frz od (.dK (kk.zip vs)))) (J d od (kk.zip vs)) (f kk ds) := w.walk X.K g1 _ d od kk vs ds (fun g' H' x => x.fr _ _ upd_same no) rl hl
      refine lc_turns (Q := fun x H1 => gName n x σ H1 fun σ' H' => H' d = some (.frz od (.dK (kk.zip vs))) ∧ E.nx σ' (upd H' d (.dK (kk.zip vs)))) (c := ⟨X.K, Wx, io⟩) (x1.io.trans hio) Gl wk ov hL (lc_post (c := ⟨X.K, Wx, io⟩) (.refl g1 _) L hL (E := fun x => PostS ⟨X.K, Wx, io⟩ g σ H E (x.bind fun r ρ1 => un (store io n r ρ1))) (fun z => z) (fun _ _ _ _ => .inr trivial) ?_ p)
      intro ds ρ2 H' g' acc p x' G' h1 h2 h3 h4
      have hz' := x'.z d _ hz
      exact ⟨x'.fr _ _ upd_same no, fin p (x1.trans (x'.unlock hd)) (G'.unlock hz') (by rw [upd_ne hLd]; exact h1) h2 h3 h4 hL'⟩
    · refine .inr (w.intro_ i σ H _ d o _ hv hd fun L hL => ?_)
      have wk : Walk X.K g1 H (J d o (kk.zip vs)) (f kk ds) := w.walk X.K g1 _ d o kk vs ds (fun g' H' x => x.fr _ _ hd no) rl hl
      refine lc_turns (Q := fun x H1 => gName n x σ H1 E.nx) (c := ⟨X.K, Wx, io⟩) (x1.io.trans hio) G1 wk ov hL (lc_post (c := ⟨X.K, Wx, io⟩) x1 L hL (E := fun x => PostS ⟨X.K, Wx, io⟩ g σ H E (x.bind fun r ρ1 => un (store io n r ρ1))) (fun z => z) (fun _ _ _ _ => .inr trivial) ?_ p)
      intro ds ρ2 H' g' acc p x' G' h1 h2 h3 h4
      exact fin p (x1.trans x') G' h1 h2 h3 h4 (Classical.byContradiction fun n => x1.fr2 L n hL)
  · rw [if_neg ov] at p; exact p.elim
end

/-! sorted(d.items()), numbers by numbers -/
def leP (p q : Int × Int) : Bool := !SrtO.lexB q p
def sortP (ps : List (Int × Int)) : List (Int × Int) := ps.mergeSort leP
theorem leP_iff {p q : Int × Int} : leP p q = true ↔ p.1 < q.1 ∨ (p.1 = q.1 ∧ p.2 ≤ q.2) := by
  unfold leP
  rw [Bool.not_eq_true', SrtO.lexB_no]
  omega
theorem sortP_perm (ps : List (Int × Int)) : (sortP ps).Perm ps := List.mergeSort_perm ps _
theorem sortP_le (ps : List (Int × Int)) : (sortP ps).Pairwise fun p q => leP p q = true :=
  List.pairwise_mergeSort (le := leP) (fun a b c h1 h2 => by rw [leP_iff] at *; omega) (fun a b => by
    rw [Bool.or_eq_true, leP_iff, leP_iff]; omega) ps
theorem sortedP_uniq : ∀ {a b : List (Int × Int)}, a.Perm b → a.Pairwise (fun p q => leP p q = true) → b.Pairwise (fun p q => leP p q = true) → a = b
  | [], b, p, _, _ => (List.Perm.nil_eq p)
  | x :: a, b, p, ha, hb => by
    cases b with
    | nil => exact absurd p.length_eq (by simp)
    | cons y b =>
      rw [List.pairwise_cons] at ha hb
      have rf : ∀ z : Int × Int, leP z z = true := fun z => leP_iff.mpr (.inr ⟨rfl, Int.le_refl _⟩)
      have h1 : leP x y = true := by
        rcases List.mem_cons.mp (p.mem_iff.mpr (List.mem_cons_self (a := y) (l := b))) with e | h
        · rw [e]; exact rf _
        · exact ha.1 y h
      have h2 : leP y x = true := by
        rcases List.mem_cons.mp (p.mem_iff.mp (List.mem_cons_self (a := x) (l := a))) with e | h
        · rw [e]; exact rf _
        · exact hb.1 x h
      have e : x = y := by
        rw [leP_iff] at h1 h2
        obtain ⟨x1, x2⟩ := x
        obtain ⟨y1, y2⟩ := y
        simp only [Prod.mk.injEq] at *
        omega
      subst e
      rw [sortedP_uniq p.cons_inv ha.2 hb.2]
def rItemsK : V → List V → Hp → VK → Prop := fun x xs H Q => ∃ (a : Addr) (kvs : List (Key × V)), x = .ref a ∧ xs = [] ∧ H a = some (.dK kvs) ∧ ∀ p, H p = none → Q (.ref p) (upd H p (itemsO p a))
theorem mt_itemsK {X : Cx} : MtR X "dict.items" rItemsK := by
  intro pins s σ H x xs v us Q I rx rxs h
  obtain ⟨a, kvs, rfl, rfl, ha, q⟩ := h
  cases rx
  cases rxs
  obtain ⟨z, lo, vs, rel, o, es, ep, ho, hx, hdat, _⟩ := dk_of I.hok ha
  refine DT.callItems (es := es) (ep := ep) lo ⟨o, ho, hx, hdat⟩ ?_
  exact ⟨.ref s.heap.objs.size, upd H s.heap.objs.size (itemsO s.heap.objs.size a), I.laid (t' := s.toks) (fun b u e => Heap.get?_push_of_some _ e) (Nat.le_refl _) (itemsO_ok (Heap.get?_push_size _ rfl)), rfl, q _ (I.hok.fresh (Nat.le_refl _))⟩
def pairV (p : Int × Int) : List V := [.int p.1, .int p.2]
def rSortItK : List V → Hp → VK → Prop := fun vs H Q => ∃ (p a : Addr) (ps : List (Int × Int)), vs = [.ref p] ∧ H p = some (itemsO p a) ∧ H a = some (.dK (ps.map fun q => ((Sum.inl q.1 : Key), V.int q.2))) ∧
  ∀ (H' : Hp) (l : Addr) (as : List Addr), (∀ b o, H b = some o → H' b = some o) → Paired (fun b q => H b = none ∧ H' b = some (.tup (pairV q))) as (sortP ps) → H l = none → l ∉ as → H' l = some (.lst (as.map V.ref)) → Q (.ref l) H'
/-- what a pair of numbers holds -/
def pairAt (h : Heap) (v : Value) : Int × Int := match v with
  | .ref b => match h.get? b with
    | some ⟨_, _, .seq items _, _⟩ => match items.toList with
      | [.int x _, .int y _] => (x, y)
      | _ => (0, 0)
    | _ => (0, 0)
  | _ => (0, 0)
theorem pairAt_of {h : Heap} {b : Addr} {x y : Int} {t u : Tok} {c : Value} {d : Option Addr} {n : Nat} {sl : Array (Option Value)} (e : h.get? b = some ⟨c, d, .seq #[.int x t, .int y u] n, sl⟩) : pairAt h (.ref b) = (x, y) := by
  unfold pairAt
  simp only [e]
theorem entries_at {P : Program} {w : World} {ps : List (Int × Int)} : ∀ {l : List DictEntry} {vs : List (Key × Value)}, PySem.Pairs (mixKind P w) l vs → KV (ps.map fun q => ((Sum.inl q.1 : Key), V.int q.2)) vs → ∀ (j : Nat) (e : DictEntry), l[j]? = some e → ∃ (q : Int × Int) (t u : Tok), ps[j]? = some q ∧ e.key = .int q.1 t ∧ e.val = .int q.2 u := by
  intro l vs h
  induction h generalizing ps with
  | nil => intro _ j e he; simp at he
  | @cons e0 kv es kvs h1 h2 _ ih =>
    intro r j e he
    cases ps with
    | nil => cases r
    | cons q ps =>
      rw [List.map_cons] at r
      cases r with
      | cons hr r =>
        cases j with
        | zero =>
          cases he
          obtain ⟨r1, r2⟩ := hr
          have r1 : (Sum.inl q.1 : Key) = kv.1 := r1
          obtain ⟨u, r2⟩ := (show ∃ t, kv.2 = Value.int q.2 t from r2)
          rw [← r1] at h1
          rcases keyIs_shape (show keyIs (Sum.inl q.1) e0.key = true from h1) with ⟨i, t, ek, ev⟩ | ⟨z, t, ek, ev⟩
          · cases ek
            exact ⟨q, t, u, rfl, ev, by rw [h2, r2]⟩
          · cases ek
        | succ j => exact ih r j e (by simpa using he)
theorem vals_refs : ∀ as : List Addr, Vals (as.map V.ref) (as.map Value.ref)
  | [] => .nil
  | _ :: as => .cons rfl (vals_refs as)
theorem perm_refs {out : List Value} {as : List Addr} (h : out.Perm (as.map Value.ref)) : ∃ as' : List Addr, out = as'.map Value.ref ∧ as'.Perm as := by
  have f : ∀ {l m : List Value}, l.Perm m → ∀ {bs : List Addr}, m = bs.map Value.ref → ∃ cs : List Addr, l = cs.map Value.ref ∧ cs.Perm bs := by
    intro l m p
    induction p with
    | nil =>
      intro bs e
      cases bs with
      | nil => exact ⟨[], rfl, .refl _⟩
      | cons b bs => cases e
    | cons x _ ih =>
      intro bs e
      cases bs with
      | nil => cases e
      | cons b bs =>
        rw [List.map_cons] at e
        injection e with e1 e2
        obtain ⟨cs, h1, h2⟩ := ih e2
        exact ⟨b :: cs, by rw [h1, e1]; rfl, h2.cons b⟩
    | swap x y l =>
      intro bs e
      match bs, e with
      | [], e => cases e
      | [_], e => cases e
      | b :: c :: bs, e =>
        rw [List.map_cons, List.map_cons] at e
        injection e with e1 e2
        injection e2 with e2 e3
        exact ⟨c :: b :: bs, by rw [e1, e2, e3]; rfl, List.Perm.swap b c bs⟩
    | trans _ _ ih1 ih2 =>
      intro bs e
      obtain ⟨cs, h1, h2⟩ := ih2 e
      obtain ⟨ds, h3, h4⟩ := ih1 h1
      exact ⟨ds, h3, h4.trans h2⟩
  exact f h rfl
theorem cr_sortItK {X : Cx} (hc : X.calm = true) : CallR X (.builtin "sorted") rSortItK := by
  intro pins s σ H xs us Q I r h
  obtain ⟨p, a, ps, rfl, hp, ha, q⟩ := h
  obtain rfl := Vals.ref1 r
  have view : s.heap.IsItemsView p a := (show ObjOk X.prog X.w H s.heap p (itemsO p a) from I.hok p _ hp).1
  obtain ⟨z, lo, vs, rel, o, es, ep, ho, hx, hdat, hk1, hk2, hk3⟩ := dk_of I.hok ha
  have ent := entries_at hk2 rel
  have l1 : (ps.map fun q => ((Sum.inl q.1 : Key), V.int q.2)).length = vs.length := rel.length
  rw [List.length_map] at l1
  have l2 : es.toList.length = vs.length := hk2.length
  rw [Array.length_toList] at l2
  have hz : ps.length ≤ sizeLine := by rw [List.length_map] at z; exact z
  have hh : X.A.handled = none := I.ok.hd hc
  refine DT.sortedI (es := es) (ep := ep) hh view ⟨o, ho, hx, hdat⟩ (by omega) fun h' tk as hk hlt hl hG => ?_
  have nd : as.Nodup := List.Pairwise.imp (fun h => Nat.ne_of_lt h) hG.rise
  have pr : ∀ (j : Nat) (b : Addr), as[j]? = some b → ∃ (q : Int × Int) (t u : Tok), ps[j]? = some q ∧ h'.get? b = some { cls := .type "tuple", data := .seq #[Value.int q.1 t, Value.int q.2 u] } := by
    intro j b hj
    obtain ⟨en, he, hg⟩ := hG.pairs j b hj
    obtain ⟨q, t, u, e1, e2, e3⟩ := ent j en (by rw [Array.getElem?_toList]; exact he)
    rw [e2, e3] at hg
    exact ⟨q, t, u, e1, hg⟩
  have ne0 : ∀ b o, h'.get? b = some o → b ≠ h'.objs.size := fun b o e => Nat.ne_of_lt (Heap.lt_size e)
  have hob : (h'.push { cls := .type "list", data := .seq (as.map Value.ref).toArray }).get? h'.objs.size = some (seqObj "list" (as.map Value.ref).toArray 0) := Heap.get?_push_size _ rfl
  generalize hh2 : h'.push { cls := .type "list", data := .seq (as.map Value.ref).toArray } = h2 at hob ⊢
  have ka : ∀ b o, h'.get? b = some o → h2.get? b = some o := fun b o e => by rw [← hh2]; exact Heap.get?_push_of_some _ e
  have isp : ∀ v ∈ as.map Value.ref, Srt.IsPair h2 v (pairAt h2 v).1 (pairAt h2 v).2 := by
    intro v hv
    obtain ⟨b, hb, rfl⟩ := List.mem_map.mp hv
    obtain ⟨j, hj⟩ := List.mem_iff_getElem?.mp hb
    obtain ⟨q, t, u, _, hg⟩ := pr j b hj
    have e : pairAt h2 (.ref b) = q := pairAt_of (ka _ _ hg)
    rw [e]
    exact ⟨b, _, t, u, 0, rfl, ka _ _ hg, rfl, rfl⟩
  have keys : as.map (fun b => pairAt h2 (.ref b)) = ps := by
    apply List.ext_getElem?
    intro j
    rw [List.getElem?_map]
    cases hj : as[j]? with
    | none =>
      have : ps[j]? = none := by
        rw [List.getElem?_eq_none_iff] at hj ⊢
        omega
      rw [this]; rfl
    | some b =>
      obtain ⟨q, t, u, e, hg⟩ := pr j b hj
      rw [e]
      exact congrArg some (pairAt_of (ka _ _ hg))
  have hzl : (as.map Value.ref).length ≤ sizeLine := by rw [List.length_map]; omega
  refine wpAny_call_entry slot_list_sort ⟨_, hob, rfl⟩ entry_list_sort
    (SrtO.list_sort_ord (s := { s with heap := h2, toks := tk }) (SrtO.swo_lex (pairAt h2)) hob hzl (fun h2l => SrtO.pairs_sortableO (by omega) isp fun o e c => ?_) fun out o1 o2 => ⟨.none, rfl, ?_⟩) (args_list_sort _)
  · have e : some o = some (seqObj "list" (as.map Value.ref).toArray 0) := e.symm.trans hob
    cases e
    exact absurd (Value.type.inj c) (by decide)
  · obtain ⟨as', ea, pa⟩ := perm_refs o2.perm
    show EP X pins σ Q (.ref h'.objs.size) { s with heap := sortedHeap h2 h'.objs.size (as.map Value.ref) out.toArray, toks := tk }
    have kF : ∀ b o, b ≠ h'.objs.size → h2.get? b = some o → (sortedHeap h2 h'.objs.size (as.map Value.ref) out.toArray).get? b = some o := fun b o hb e => (sortedHeap_old hb (Heap.lt_size e)).trans e
    have kS : ∀ b o, s.heap.get? b = some o → (sortedHeap h2 h'.objs.size (as.map Value.ref) out.toArray).get? b = some o := fun b o e => kF b o (ne0 _ _ (hk b o e)) (ka b o (hk b o e))
    obtain ⟨eF, heF⟩ := sortedHeap_at (vs := as.map Value.ref) (out := out.toArray) hob
    have I1 : Inv X pins σ H { s with heap := sortedHeap h2 h'.objs.size (as.map Value.ref) out.toArray, toks := tk } := I.kept (t' := tk) kS
    have hn0 : H h'.objs.size = none := I.hok.fresh (Nat.le_of_lt hlt)
    have hlen : (as'.map V.ref).length ≤ sizeLine := by rw [List.length_map, pa.length_eq]; rw [List.length_map] at hzl; exact hzl
    have rv : Vals (as'.map V.ref) out := by rw [ea]; exact vals_refs as'
    have I2 : Inv X pins σ (upd H h'.objs.size (.lst (as'.map V.ref))) { s with heap := sortedHeap h2 h'.objs.size (as.map Value.ref) out.toArray, toks := tk } :=
      I1.take (h' := sortedHeap h2 h'.objs.size (as.map Value.ref) out.toArray) (t' := tk) (fun b ob _ e => e) (I.fpOk (Nat.le_of_lt hlt) hn0) ⟨hlen, out, eF, rv, heF⟩
    obtain ⟨H2, I3, g, qt⟩ := takeT (P := fun b vs => vs = pairV (pairAt h2 (.ref b))) I as _ I2 nd fun b hb => by
      obtain ⟨j, hj⟩ := List.mem_iff_getElem?.mp hb
      obtain ⟨q, t, u, e, hg⟩ := pr j b hj
      have hbl : s.heap.objs.size ≤ b := Nat.le_of_lt (hG.above b hb)
      have ek : pairAt h2 (.ref b) = q := pairAt_of (ka _ _ hg)
      refine ⟨hbl, ?_, pairV (pairAt h2 (.ref b)), rfl, fun H3 => ?_⟩
      · rw [upd_ne (ne0 _ _ hg)]
        exact I.hok.fresh hbl
      · rw [ek]
        exact ⟨by rw [sizeLine_eq]; show 2 ≤ 16777216; omega, [Value.int q.1 t, Value.int q.2 u], .cons ⟨t, rfl⟩ (.cons ⟨u, rfl⟩ .nil), ⟨_, kF _ _ (ne0 _ _ hg) (ka _ _ hg), rfl, 0, rfl⟩⟩
    have gr : ∀ b o, H b = some o → H2 b = some o := fun b o e => g b o (by rw [upd_ne (ne_of_none e hn0)]; exact e)
    have sp : as'.map (fun b => pairAt h2 (.ref b)) = sortP ps := by
      refine sortedP_uniq (((pa.map _).trans (by rw [keys])).trans (sortP_perm ps).symm) ?_ (sortP_le ps)
      rw [ea] at o1
      have o1 : (as'.map Value.ref).Pairwise fun x y => SrtO.lexB (pairAt h2 y) (pairAt h2 x) = false := o1
      rw [List.pairwise_map] at o1 ⊢
      exact o1.imp fun {x y} h => by unfold leP; rw [h]; rfl
    have inas : ∀ b ∈ as', b ∈ as := fun b hb => pa.mem_iff.mp hb
    refine ⟨.ref h'.objs.size, H2, I3, rfl, q H2 h'.objs.size as' gr ?_ hn0 (fun hm => ?_) (g _ _ upd_same)⟩
    · rw [← sp]
      have gen : ∀ l : List Addr, (∀ b ∈ l, b ∈ as) → Paired (fun b q => H b = none ∧ H2 b = some (.tup (pairV q))) l (l.map fun b => pairAt h2 (.ref b)) := by
        intro l
        induction l with
        | nil => intro _; exact .nil
        | cons b l ih =>
          intro hm
          refine .cons ⟨?_, ?_⟩ (ih fun c hc => hm c (List.mem_cons_of_mem _ hc))
          · exact I.hok.fresh (Nat.le_of_lt (hG.above b (hm b (List.mem_cons_self ..))))
          · obtain ⟨vs, e, hH⟩ := qt b (hm b (List.mem_cons_self ..))
            rw [← e]; exact hH
      exact gen as' inas
    · obtain ⟨j, hj⟩ := List.mem_iff_getElem?.mp (inas _ hm)
      obtain ⟨q, t, u, _, hg⟩ := pr j _ hj
      exact ne0 _ _ hg rfl
def intPairs : List KK → List D → Option (List (Int × Int))
  | [], [] => some []
  | .inl (.inl i) :: ks, .int j :: ds => (intPairs ks ds).map ((i, j) :: ·)
  | _, _ => none
def evSortIt (i : Nat) (ρ : Rho) : Rs R := match look ρ i with
  | some (.dic ks ds) => opt ((intPairs ks ds).map fun ps => .tmp (.lst ((sortP ps).map fun p => .tup [.int p.1, .int p.2]))) ρ
  | _ => .stuck
theorem intPairs_rep {K : PySem.W.Frag} {Z : Hp} : ∀ {ks : List KK} {ds : List D} {vs : List V} {ps : List (Int × Int)}, RepL K Z ds vs → intPairs ks ds = some ps → ks = (ps.map fun p => (Sum.inl p.1 : Key)).map Sum.inl ∧ vs = ps.map fun p => V.int p.2
  | [], [], vs, ps, r, e => by cases e; unfold RepL at r; exact ⟨rfl, r⟩
  | [], _ :: _, vs, ps, r, e => by simp [intPairs] at e
  | .inl (.inl i) :: ks, .int j :: ds, vs, ps, r, e => by
    obtain ⟨qs, e2, rfl⟩ := Option.map_eq_some_iff.mp e
    unfold RepL at r
    obtain ⟨v, t, rfl, r1, r2⟩ := r
    unfold RepD at r1
    obtain ⟨h1, h2⟩ := intPairs_rep r2 e2
    exact ⟨by rw [h1]; rfl, by rw [r1, h2]; rfl⟩
  | .inl (.inl i) :: ks, [], vs, ps, r, e => by simp [intPairs] at e
  | .inl (.inr x) :: ks, ds, vs, ps, r, e => by simp [intPairs] at e
  | .inr x :: ks, ds, vs, ps, r, e => by simp [intPairs] at e
  | .inl (.inl i) :: ks, .non :: ds, vs, ps, r, e => by simp [intPairs] at e
  | .inl (.inl i) :: ks, .bl _ :: ds, vs, ps, r, e => by simp [intPairs] at e
  | .inl (.inl i) :: ks, .str _ :: ds, vs, ps, r, e => by simp [intPairs] at e
  | .inl (.inl i) :: ks, .tup _ :: ds, vs, ps, r, e => by simp [intPairs] at e
  | .inl (.inl i) :: ks, .lst _ :: ds, vs, ps, r, e => by simp [intPairs] at e
  | .inl (.inl i) :: ks, .dic _ _ :: ds, vs, ps, r, e => by simp [intPairs] at e
  | .inl (.inl i) :: ks, .obj _ _ _ :: ds, vs, ps, r, e => by simp [intPairs] at e
  | .inl (.inl i) :: ks, .scr _ :: ds, vs, ps, r, e => by simp [intPairs] at e
  | .inl (.inl i) :: ks, .fn _ :: ds, vs, ps, r, e => by simp [intPairs] at e
theorem zip_pairs : ∀ ps : List (Int × Int), ((ps.map fun p => (Sum.inl p.1 : Key)).zip (ps.map fun p => V.int p.2)) = ps.map fun q => ((Sum.inl q.1 : Key), V.int q.2)
  | [] => rfl
  | p :: ps => by rw [List.map_cons, List.map_cons, List.zip_cons_cons, zip_pairs ps]; rfl
theorem SE_sortIt {X : Cx} {Wx : WX} {io : List Nat} {x : Str} {o : Expr} {i : Nat} {p pos apos cpos : Pos} (hc : X.calm = true) (ho : PE X o (tVar i)) (hg : Gl X x) (hm : X.mg x = none) (hv : bootBuiltins x = some (.builtin "sorted")) (hn : x ≠ "__name__") (hdb : (x == ("__debug__" : Str)) = false)
    (hbase : attributeBase o "items" X.env (eval o X.env) = eval o X.env) (hline : (apos.endLine == cpos.line) = true) (hs : starEach [.Call (.Attribute o "items" apos) [] [] cpos] X.env = (false, eval (.Call (.Attribute o "items" apos) [] [] cpos) X.env) :: starEach [] X.env) :
    SE X Wx io (.Call (.Name x p) [.Call (.Attribute o "items" apos) [] [] cpos] [] pos) (evSortIt i) := by
  have arg := pe_bm0 (X := X) (cpos := cpos) PySem.F.plainAttrs_dict PySem.F.slot_dict_items PySem.F.type_dict_items mt_itemsK ho hbase hline
  refine PE.imp (pe_callB (cr_sortItK hc) hg hm hv (pa_cons arg pa_nil hs) hn hdb hs rfl) fun σ H Q ⟨ρ, g, hio, G, q⟩ => ?_
  unfold evSortIt at q
  split at q
  · rename_i ks ds e
    cases ep : intPairs ks ds with
    | none => rw [ep] at q; exact q.elim
    | some ps =>
      rw [ep] at q
      obtain ⟨v, hv2, a, vs, rfl, ow, ⟨h1, h2, h3⟩, rl⟩ := G.at_ i _ e
      obtain ⟨ek, ev⟩ := intPairs_rep rl ep
      have ha : H a = some (.dK (ps.map fun q => ((Sum.inl q.1 : Key), V.int q.2))) := by
        rcases h3 with ⟨kk, e1, e2⟩ | ⟨kk, ⟨e1, ne⟩, e2⟩
        · rw [ek] at e1
          have := inl_inj e1
          rw [← this, ev, zip_pairs] at e2
          exact e2
        · rw [ek] at e1
          cases kk with
          | nil => exact absurd rfl ne
          | cons k kk =>
            cases ps with
            | nil => simp at e1
            | cons p ps => simp at e1
      refine ⟨_, hv2, .inr (.inr (.inl ⟨rfl, .inl ⟨_, ha⟩⟩)), a, _, rfl, rfl, ha, fun w hw => ?_⟩
      have hwa : w ≠ a := fun z => by rw [z, ha] at hw; cases hw
      refine ⟨w, a, ps, rfl, upd_same, by rw [upd_ne (Ne.symm hwa)]; exact ha, fun H' l as gr pr hl hla hH => ?_⟩
      have hl' : H l = none := by
        by_cases z : l = w
        · rw [z]; exact hw
        · rw [upd_ne z] at hl; exact hl
      have lw : l ≠ w := fun z => by rw [z, upd_same] at hl; cases hl
      have gr' : ∀ b o, H b = some o → H' b = some o := fun b o e => gr b o (by rw [upd_ne (ne_of_none e hw)]; exact e)
      have fresh : ∀ b ∈ as, H b = none := by
        have gen : ∀ {as : List Addr} {qs : List (Int × Int)}, Paired (fun b q => upd H w (itemsO w a) b = none ∧ H' b = some (.tup (pairV q))) as qs → ∀ b ∈ as, H b = none := by
          intro as qs h
          induction h with
          | nil => intro b hb; cases hb
          | cons h _ ih =>
            intro b hb
            rcases List.mem_cons.mp hb with rfl | hb
            · by_cases z : b = w
              · rw [z]; exact hw
              · have := h.1; rw [upd_ne z] at this; exact this
            · exact ih b hb
        exact gen pr
      have nw : NewOk g.Z H (fun b => if b ∈ as then H' b else g.Z b) H' := by
        refine ⟨fun b o e => ?_, gr', fun b hb => ?_, fun b o e => ?_⟩
        · have hb : b ∉ as := fun hm => by
            rcases G.sub b o e with z | ⟨_, _, z⟩ <;> rw [fresh b hm] at z <;> cases z
          rw [if_neg hb]; exact e
        · by_cases hm : b ∈ as
          · exact .inr (fresh b hm)
          · rw [if_neg hm] at hb; exact .inl hb
        · have e : (if b ∈ as then H' b else g.Z b) = some o := e
          by_cases hm : b ∈ as
          · rw [if_pos hm] at e; exact .inl e
          · rw [if_neg hm] at e
            rcases G.sub b o e with z | ⟨lk, ob, z⟩
            · exact .inl (gr' b o z)
            · exact .inr ⟨lk, ob, gr' b _ z⟩
      obtain ⟨x1, G1⟩ := nw.ext G
      have rl2 : RepL X.K (fun b => if b ∈ as then H' b else g.Z b) ((sortP ps).map fun p => D.tup [.int p.1, .int p.2]) (as.map V.ref) := by
        have gen : ∀ {bs : List Addr} {qs : List (Int × Int)}, (∀ b ∈ bs, b ∈ as) → Paired (fun b q => upd H w (itemsO w a) b = none ∧ H' b = some (.tup (pairV q))) bs qs → RepL X.K (fun b => if b ∈ as then H' b else g.Z b) (qs.map fun p => D.tup [.int p.1, .int p.2]) (bs.map V.ref) := by
          intro bs qs hm h
          induction h with
          | nil => exact .nil
          | @cons b q bs qs h _ ih =>
            refine .cons ?_ (ih fun c hc => hm c (List.mem_cons_of_mem _ hc))
            unfold RepD
            refine ⟨b, pairV q, rfl, .inl (.inl ?_), .cons repI (.cons repI .nil)⟩
            show (if b ∈ as then H' b else g.Z b) = _
            rw [if_pos (hm b (List.mem_cons_self ..))]
            exact h.2
        exact gen (fun b hb => hb) pr
      refine q (.ref l) H' _ x1 G1 ⟨l, ⟨l, _, rfl, rfl, hH, rl2⟩, ?_, fun j e => ?_, hl'⟩
      · show (if l ∈ as then H' l else g.Z l) = none
        rw [if_neg hla]
        cases z : g.Z l with
        | none => rfl
        | some u => rcases G.sub l u z with y | ⟨_, _, y⟩ <;> rw [hl'] at y <;> cases y
      · obtain ⟨u, y⟩ := G.alive e
        rw [hl'] at y; cases y
  · exact q.elim
end Spl

namespace Spl
open PySem PySem.Spec L2
open PyProof.Rows

/-! t[::-1] of a tuple -/
theorem back_at (xs : Array Value) (n : Nat) (hn : n = xs.size) : ((List.range n).filterMap fun (k : Nat) => xs[(((n : Int) - 1) + (k : Int) * (-1)).toNat]?) = xs.toList.reverse := by
  subst hn
  apply List.ext_getElem?
  intro i
  have h1 : ∀ m, m ≤ xs.size → ((List.range m).filterMap fun (k : Nat) => xs[(((xs.size : Int) - 1) + (k : Int) * (-1)).toNat]?) = (xs.toList.reverse.take m) := by
    intro m
    induction m with
    | zero => intro _; simp
    | succ m ih =>
      intro hm
      rw [List.range_succ, List.filterMap_append, ih (by omega)]
      have e : (((xs.size : Int) - 1) + (m : Int) * (-1)).toNat = xs.size - 1 - m := by omega
      have hlt : xs.size - 1 - m < xs.size := by omega
      rw [List.filterMap_cons_some (b := xs[xs.size - 1 - m]) (by rw [e]; exact Array.getElem?_eq_getElem hlt), List.filterMap_nil]
      have hr : m < xs.toList.reverse.length := by simp; omega
      rw [List.take_succ, List.getElem?_eq_getElem hr]
      congr 1
      simp
  rw [h1 xs.size (Nat.le_refl _), List.take_of_length_le (by simp)]
theorem getItem_back {prog : Program} {w : World} {A : Around} {E : Value → Shared → Prop} {s : Shared} {t sl : Addr} {items : Array Value} {u : Tok} {Q : Value → Shared → Prop} (ht : IsTup s.heap t items) (hs : s.heap.IsSliceOf sl .none .none (.int (-1) u)) (size : items.size ≤ sizeLine)
    (h : Q (.ref s.heap.objs.size) { s with heap := s.heap.push { cls := .type "tuple", data := .seq items.toList.reverse.toArray } }) : wpAny (model prog w) A (getItem (.ref t) (.ref sl)) Q E s := by
  have fits : sizeOk (.seq items.toList.reverse.toArray) := by
    show items.toList.reverse.toArray.size ≤ sizeLine
    simpa using size
  obtain ⟨os, hos, hcs, hds⟩ := id hs
  have hTs : s.TypeIs (.ref sl) "slice" := ⟨os, hos, hcs⟩
  unfold getItem
  try with_reducible refine wpAny_holding ?_
  first | refine wpAny_bind (wpAny_pure ?_) | skip
  refine wpAny_bind (wpAny_sequenceKey ht.typeIs (by decide) ?_)
  refine wpAny_bind (wpAny_callSpecial?_slot (name := Str.ofString "__getitem__") ht.typeIs slot_tuple_getitem
    (wpAny_call_entry slot_tuple_getitem ht.typeIs entry_tuple_getitem ?_ (args_tuple_getitem _ _)))
  show wpAny _ _ (Builtin.Tuple.tupleItemsOf (.ref t) >>= _) _ _ s
  refine wpAny_bind (tupleItemsOf_ ht ?_)
  refine wpAny_bind (wpAny_typeOf hTs ?_)
  rw [if_pos (by decide)]
  have app : ∀ {Q : Int × Int × Nat → Shared → Prop} {A : Around}, Q ((items.size : Int) - 1, -1, items.size) s → wpAny (model prog w) A (Builtin.Slice.sliceApplied (.ref sl) (pure (items.size : Int))) Q E s := by
    intro Q A hQ
    unfold Builtin.Slice.sliceApplied Builtin.Slice.sliceFields
    refine wpAny_bind (wpAny_bind (wpAny_field hos hds (x := .none) rfl (wpAny_bind (wpAny_field hos hds (x := .none) rfl (wpAny_bind (wpAny_field hos hds (x := .int (-1) u) rfl (wpAny_pure ?_)))))))
    refine wpAny_bind (slicePart_int ?_)
    show wpAny _ _ (if ((-1 : Int) == 0) = true then _ else _) _ _ s
    rw [if_neg (by decide)]
    refine wpAny_bind (slicePart_none (wpAny_bind (slicePart_none (wpAny_bind (wpAny_pure ?_)))))
    show wpAny _ _ (pure ((items.size : Int) - 1, (-1 : Int), Builtin.Slice.slicePlaces ((items.size : Int) - 1) (-1) (-1))) _ _ s
    have e : Builtin.Slice.slicePlaces ((items.size : Int) - 1) (-1) (-1) = items.size := by
      unfold Builtin.Slice.slicePlaces
      rw [if_neg (by decide)]
      have e1 : -(-1 : Int) = 1 := by decide
      rw [e1, Int.ediv_one]
      split <;> omega
    rw [e]
    exact wpAny_pure hQ
  refine wpAny_bind (app ?_)
  show wpAny _ _ (if (((items.size : Int) - 1) == 0 && (-1 : Int) == 1 && items.size == items.size) = true then _ else _) _ _ s
  have hno : ¬ ((((items.size : Int) - 1) == 0 && (-1 : Int) == 1 && items.size == items.size) = true) := by
    have : ((-1 : Int) == 1) = false := by decide
    rw [this, Bool.and_false, Bool.false_and]
    exact Bool.false_ne_true
  rw [if_neg hno]
  have e2 := back_at items items.size rfl
  rw [e2]
  first
    | exact wpAny_bind (m := Builtin.Tuple.tupleExact _) (wpAny_newObj_type (wpAny_pure ⟨_, rfl, wpAny_pure h⟩) fits)
    | exact wpAny_bind (m := Builtin.Tuple.tupleExact _) (wpAny_newObj_type (wpAny_bind (wpAny_pure (wpAny_pure ⟨_, rfl, wpAny_pure h⟩))) fits)
    | exact wpAny_bind (wpAny_bind (m := Builtin.Tuple.tupleExact _) (wpAny_newObj_type (wpAny_pure (wpAny_pure ⟨_, rfl, wpAny_pure h⟩)) fits))
    | exact wpAny_bind (wpAny_bind (m := Builtin.Tuple.tupleExact _) (wpAny_newObj_type (wpAny_pure ⟨_, rfl, wpAny_pure h⟩) fits))
def tRevT (K : PySem.W.Frag) (te : TE) : TE := fun σ H Q => te σ H fun x H1 => ∃ a xs, x = .ref a ∧ SqT K H1 a xs ∧ ∀ p, H1 p = none → Q (.ref p) (upd H1 p (.tup xs.reverse))
theorem pe_revT {X : Cx} {e : Expr} {te : TE} {k : Nat} {p1 p2 p3 pos : Pos} (he : PE X e te) : PE X (.Subscript e (.Slice none none (some (.UnaryOp .USub (.Constant (.int 1) k p1) p2)) p3) pos) (tRevT X.K te) := by
  refine ⟨fun pins s σ H Q I h => ?_⟩
  refine Subscript_ (thn (he.run pins s σ H _ I h) fun v s1 ⟨x, H1, I1, r1, q1⟩ => ?_)
  obtain ⟨a, xs, ex, hx, q⟩ := q1
  subst ex
  obtain rfl : v = Value.ref a := r1
  have step : PO X (some (.UnaryOp .USub (.Constant (.int 1) k p1) p2)) (tPart (tUn (rU fun i => .int (-i)) (tC (.int 1)))) := po_some (pe_un un_neg pe_int)
  refine wpAny_Slice (thn (po_none.run pins s1 σ H1 (fun o H2 => o = none ∧ H2 = H1) I1 ⟨rfl, rfl⟩) fun vl s2 ⟨l, H2, I2, pl, el, e2⟩ => ?_)
  subst el e2
  refine thn (po_none.run pins s2 σ H2 (fun o H3 => o = none ∧ H3 = H2) I2 ⟨rfl, rfl⟩) fun vu s3 ⟨u, H3, I3, pu, eu, e3⟩ => ?_
  subst eu e3
  refine thn (step.run pins s3 σ H3 (fun o H4 => o = some (-1) ∧ H4 = H3) I3 ⟨1, rfl, -1, rfl, rfl, rfl⟩) fun vs s4 ⟨o, H4, I4, ps, eo, e4⟩ => ?_
  subst eo e4
  cases pl
  cases pu
  cases ps with
  | int _ tk =>
    have I5 : Inv X pins σ H4 { s4 with heap := s4.heap.push { cls := .type "slice", data := .fields #[.none, .none, .int (-1) tk] } } := I4.kept (t' := s4.toks) fun b o q => Heap.get?_push_of_some _ q
    obtain ⟨its, r, ht, hz⟩ := I5.tuple hx
    have hlen := r.length
    show wpAny (model X.prog X.w) X.A (subscriptTail e (.Slice none none (some (.UnaryOp .USub (.Constant (.int 1) k p1) p2)) p3) (.ref a) (.ref s4.heap.objs.size)) (EP X pins σ Q) X.xe { s4 with heap := s4.heap.push { cls := .type "slice", data := .fields #[.none, .none, .int (-1) tk] } }
    refine tail_any (ops := [.ref a, .ref s4.heap.objs.size]) ht.typeIs slot_tuple_getitem.lookup ?_ (by with_unfolding_all rfl)
    refine getItem_back ht (Heap.IsSliceOf.new _ .none .none (.int (-1) tk)) (by rw [List.size_toArray]; omega) ?_
    refine ⟨.ref _, _, I5.laid (t' := s4.toks) (o := .tup xs.reverse) (fun b o q => Heap.get?_push_of_some _ q) (Nat.le_refl _) ?_, rfl, q _ (I5.hok.fresh (Nat.le_refl _))⟩
    exact ⟨by rw [List.length_reverse]; exact hz, its.reverse, r.reverse, IsTup.new _ _⟩
/-- xs[::-1] -/
def revDT2 : D → Option R
  | .tup xs => some (.val (.tup xs.reverse))
  | d => revD d
theorem SE_revB {X : Cx} {Wx : WX} {io : List Nat} {a : Expr} {f : Rho → Rs R} {k : Nat} {p1 p2 p3 pos : Pos} (ha : SE X Wx io a f) : SE X Wx io (.Subscript a (.Slice none none (some (.UnaryOp .USub (.Constant (.int 1) k p1) p2)) p3) pos) (ev1 revDT2 f) := by
  refine PE.imp (pe_or (pe_revL ha) (pe_revT ha)) fun σ H Q ⟨ρ, g, hio, G, p⟩ => ?_
  unfold ev1 at p
  have both : ∀ (T : V → Hp → Prop), (∀ r ρ1 g1 v H1, Ext g H g1 H1 → Rel X.K g1 ρ1 σ H1 → RepR X.K H g1 σ H1 r v → f ρ = .ok r ρ1 → Post ⟨X.K, Wx, io⟩ g σ H (repR ⟨X.K, Wx, io⟩ σ H) Q (opt ((r.view ρ1).bind revDT2) ρ1) → T v H1) → tS ⟨X.K, Wx, io⟩ f σ H T := by
    intro T hT
    refine ⟨ρ, g, hio, G, ?_⟩
    cases e : f ρ with
    | stuck => rw [e] at p; exact p
    | exc cn ns ds ρ' => rw [e] at p; exact p
    | ok r ρ1 =>
      rw [e] at p
      exact fun v H1 g1 x1 G1 r1 => hT r ρ1 g1 v H1 x1 G1 r1 e p
  by_cases ht : ∃ r ρ1 xs, f ρ = .ok r ρ1 ∧ r.view ρ1 = some (.tup xs)
  · obtain ⟨r0, ρ0, xs, e0, v0⟩ := ht
    refine .inr (both _ fun r ρ1 g1 v H1 x1 G1 r1 e p1 => ?_)
    rw [e0] at e
    cases e
    obtain ⟨y, hy, q⟩ := p1.fin x1 G1
    rw [v0] at hy
    cases hy
    obtain ⟨a, vs, e1, l, rl⟩ := r1.u G1 v0
    exact ⟨a, vs, e1, G1.sub.sqT l, q_tup G1.sub q rl.reverse⟩
  · refine .inl (both _ fun r ρ1 g1 v H1 x1 G1 r1 e p1 => ?_)
    obtain ⟨y, hy, q⟩ := p1.fin x1 G1
    obtain ⟨d, hd, ho⟩ := Option.bind_eq_some_iff.mp hy
    have u := r1.u G1 hd
    cases d with
    | tup xs => exact absurd ⟨r, ρ1, xs, e, hd⟩ ht
    | lst xs =>
      cases ho
      obtain ⟨a, vs, e1, l, rl⟩ := u
      exact ⟨a, vs, e1, .of l, q_lst G1.sub q rl.reverse⟩
    | scr xs =>
      cases ho
      obtain ⟨a, e1, l⟩ := u
      exact ⟨a, _, e1, l, q_lst G1.sub q (RepL.reverse RepL.intsOf)⟩
    | _ => cases ho
end Spl

namespace Spl
open PySem PySem.Spec L2
open PyProof.Rows

/-! a fresh thing handed over to be changed, then lost: it stands in one more slot meanwhile -/
theorem look_app1 {ρ : Rho} {o : Option W} {i : Nat} : look (ρ ++ [o]) i = if i = ρ.length then o else look ρ i := by
  unfold look
  by_cases h : i = ρ.length
  · rw [if_pos h, h]
    simp
  · rw [if_neg h]
    by_cases h2 : i < ρ.length
    · rw [List.getElem?_append_left h2]
    · rw [List.getElem?_eq_none (by simp; omega), List.getElem?_eq_none (by omega)]
theorem Rel.more {K : PySem.W.Frag} {g : Gh} {ρ : Rho} {σ : L2.St} {H : Hp} {w : W} {v : V} {a : Addr} (G : Rel K g ρ σ H) (r : RepW K g.Z H w v (some a)) (hz : g.Z a = none) (ho : ∀ i, g.own i ≠ some a) :
    Rel K ⟨g.Z, fun j => if j = ρ.length then some a else g.own j, g.io⟩ (ρ ++ [some w]) (σ ++ [some v]) H := by
  refine ⟨by simp [G.len], G.sub, fun i u h => ?_, fun i h => ?_, fun i b h => ?_, fun i j b h1 h2 => ?_⟩
  · rw [look_app1] at h
    show ∃ v', (σ ++ [some v])[i]? = some (some v') ∧ RepW K g.Z H u v' (if i = ρ.length then some a else g.own i)
    by_cases e : i = ρ.length
    · rw [if_pos e] at h ⊢
      cases h
      refine ⟨v, ?_, r⟩
      rw [e, G.len]; simp
    · rw [if_neg e] at h ⊢
      obtain ⟨v', hv, rv⟩ := G.at_ i u h
      exact ⟨v', by rw [List.getElem?_append_left (List.getElem?_eq_some_iff.mp hv).1]; exact hv, rv⟩
  · rw [look_app1] at h
    show (if i = ρ.length then some a else g.own i) = none
    by_cases e : i = ρ.length
    · rw [if_pos e] at h; cases h
    · rw [if_neg e] at h ⊢; exact G.emp i h
  · have h : (if i = ρ.length then some a else g.own i) = some b := h
    split at h
    · cases h; exact hz
    · exact G.nz i b h
  · have h1 : (if i = ρ.length then some a else g.own i) = some b := h1
    have h2 : (if j = ρ.length then some a else g.own j) = some b := h2
    split at h1
    · cases h1
      split at h2
      · omega
      · exact absurd h2 (ho j)
    · split at h2
      · cases h2; exact absurd h1 (ho i)
      · exact G.inj i j b h1 h2
theorem Rel.less {K : PySem.W.Frag} {g : Gh} {ow : Nat → Option Addr} {io : List Nat} {Z : Hp} {ρ : Rho} {σ : L2.St} {o : Option V} {H : Hp} {n : Nat} (hn : n = σ.length) (G : Rel K ⟨Z, ow, io⟩ ρ (σ ++ [o]) H) (ho : ∀ i, i ≠ n → g.own i = ow i) (hn0 : g.own n = none) :
    Rel K ⟨Z, g.own, io⟩ (ρ.take n) σ H := by
  have hl := G.len
  rw [List.length_append] at hl
  have lk : ∀ i, look (ρ.take n) i = if i < n then look ρ i else none := by
    intro i
    unfold look
    by_cases h : i < n
    · rw [if_pos h, List.getElem?_take_of_lt h]
    · rw [if_neg h, List.getElem?_eq_none (by rw [List.length_take]; omega)]; rfl
  refine ⟨by rw [List.length_take, hl, hn]; simp, G.sub, fun i u h => ?_, fun i h => ?_, fun i b h => ?_, fun i j b h1 h2 => ?_⟩
  · rw [lk] at h
    split at h
    · rename_i hi
      obtain ⟨v', hv, rv⟩ := G.at_ i u h
      refine ⟨v', by rw [List.getElem?_append_left (by omega)] at hv; exact hv, ?_⟩
      show RepW K Z H u v' (g.own i)
      rw [ho i (by omega)]; exact rv
    · cases h
  · show g.own i = none
    by_cases e : i = n
    · rw [e]; exact hn0
    · rw [ho i e]
      rw [lk] at h
      split at h
      · exact G.emp i h
      · refine G.emp i ?_
        unfold look
        rw [List.getElem?_eq_none (by rw [hl, List.length_singleton]; omega)]; rfl
  · have e : i ≠ n := fun e => by rw [e] at h; exact nomatch h.symm.trans hn0
    exact G.nz i b ((ho i e).symm.trans h)
  · have e1 : i ≠ n := fun e => by rw [e] at h1; exact nomatch h1.symm.trans hn0
    have e2 : j ≠ n := fun e => by rw [e] at h2; exact nomatch h2.symm.trans hn0
    exact G.inj i j b ((ho i e1).symm.trans h1) ((ho j e2).symm.trans h2)
def A.isDat : A → Bool
  | .dat _ => true
  | _ => false
def evCallT (F : Fn) (f : Rho → Rs R) (h : Rho → Rs (List A)) (ρ : Rho) : Rs R := (f ρ).bind fun r ρ1 => (h ρ1).bind fun as ρ2 => match r with
  | .tmp w => if as.all A.isDat = true then match argWs ρ2 as with
    | none => .stuck
    | some ws => match F (w :: ws) with
      | .ret u io => if as.length < io.length then .ok (.of u) ρ2 else .stuck
      | _ => .stuck
    else .stuck
  | _ => .stuck
theorem argWs_dats : ∀ {as : List A} {ρ ρ' : Rho}, as.all A.isDat = true → argWs ρ as = argWs ρ' as ∧ owns as = [] ∧ ∀ io, backW as io ρ = ρ
  | [], ρ, ρ', _ => ⟨rfl, rfl, fun io => by cases io <;> rfl⟩
  | .own i :: as, ρ, ρ', h => by cases h
  | .dat d :: as, ρ, ρ', h => by
    obtain ⟨h1, h2, h3⟩ := argWs_dats (as := as) (ρ := ρ) (ρ' := ρ') (show as.all A.isDat = true from h)
    refine ⟨?_, h2, fun io => ?_⟩
    · show (some (W.dat d)).bind (fun w => (argWs ρ as).map (w :: ·)) = (some (W.dat d)).bind (fun w => (argWs ρ' as).map (w :: ·))
      rw [h1]
    · cases io with
      | nil => rfl
      | cons w io => exact h3 io
theorem RepAs.more {K : PySem.W.Frag} {g g' : Gh} {σ σ' : L2.St} (hz : g'.Z = g.Z) : ∀ {as : List A} {vs : List V}, as.all A.isDat = true → RepAs K g σ as vs → RepAs K g' σ' as vs
  | [], vs, _, h => by cases h; exact .nil
  | .own i :: as, vs, e, h => by cases e
  | .dat d :: as, vs, e, h => by
    cases h with
    | cons h1 h2 => exact .cons (show RepD K g'.Z d _ by rw [hz]; exact h1) (RepAs.more hz (show as.all A.isDat = true from e) h2)
theorem t_callT {X : Cx} {Wx : WX} {io : List Nat} {F : Fn} {f : Rho → Rs R} {h : Rho → Rs (List A)} {σ : L2.St} {H : Hp} {Q : VK} (q : tS ⟨X.K, Wx, io⟩ (evCallT F f h) σ H Q) : tCallG (spF X.K F) [] Wx (tCons (tS ⟨X.K, Wx, io⟩ f) (tAs ⟨X.K, Wx, io⟩ h)) σ H Q := by
  obtain ⟨ρ, g, hio, G, q⟩ := q
  refine tS.bind hio (.refl g H) G q fun r ρ1 g1 v H1 _ x1 G1 r1 p1 => ?_
  refine tAs.bind hio x1 G1 p1 fun as ρ2 g2 vs H2 x12 x2 G2 r2 p2 => ?_
  show spF X.K F ((v :: vs) ++ []) H2 Q fun c d H' => Wx c d σ H'
  rw [List.append_nil]
  cases r with
  | val d => exact p2.elim
  | place i => exact p2.elim
  | tmp w =>
    have r1' := RepR.ext x12 r1
    obtain ⟨a, rw', hz, ho, h0⟩ := r1'
    dsimp only at p2
    by_cases hd : as.all A.isDat = true
    · rw [if_pos hd] at p2
      cases e : argWs ρ2 as with
      | none => rw [e] at p2; exact p2.elim
      | some ws =>
        rw [e] at p2
        dsimp only at p2
        have Gm := G2.more rw' hz ho
        have il : ρ2.length = σ.length := G2.len
        have hno : g2.own ρ2.length = none := G2.emp _ (by unfold look; rw [List.getElem?_eq_none (Nat.le_refl _)]; rfl)
        have hw : ∀ d, w ≠ .dat d := fun d e => by subst e; exact nomatch rw'.1
        have ea : argWs (ρ2 ++ [some w]) (.own ρ2.length :: as) = some (w :: ws) := by
          have e1 : argW (ρ2 ++ [some w]) (.own ρ2.length) = some w := by
            show (match look (ρ2 ++ [some w]) ρ2.length with | some (.dat _) => none | o => o) = some w
            rw [look_app1, if_pos rfl]
            cases w with
            | dat d => exact absurd rfl (hw d)
            | _ => rfl
          show (argW (ρ2 ++ [some w]) (.own ρ2.length)).bind (fun u => (argWs (ρ2 ++ [some w]) as).map (u :: ·)) = _
          rw [e1, (argWs_dats (ρ := ρ2 ++ [some w]) (ρ' := ρ2) hd).1, e]; rfl
        have ra : RepAs X.K ⟨g2.Z, fun j => if j = ρ2.length then some a else g2.own j, g2.io⟩ (σ ++ [some v]) (.own ρ2.length :: as) (v :: vs) := by
          refine .cons ?_ (RepAs.more (g := g2) (σ := σ) ?_ hd r2)
          · show (σ ++ [some v])[ρ2.length]? = some (some v)
            rw [il]; simp
          · rfl
        have nd : (owns (.own ρ2.length :: as)).Nodup := by
          show (ρ2.length :: owns as).Nodup
          rw [(argWs_dats (ρ := ρ2) (ρ' := ρ2) hd).2.1]; simp
        have a0 := args_start Gm ra nd ea
        refine ⟨_, w :: ws, a0.length, a0, ?_⟩
        cases eF : F (w :: ws) with
        | stuck => rw [eF] at p2; exact p2.elim
        | exc cn ns ds io' => rw [eF] at p2; exact p2.elim
        | ret u io' =>
          rw [eF] at p2
          dsimp only at p2
          by_cases hl : as.length < io'.length
          · rw [if_pos hl] at p2
            intro y H' Z' o b r ho'
            obtain ⟨ex, G'⟩ := args_back Gm ra nd ea b.tail0 (by rw [List.length_cons]; exact hl)
            have eb : (backW (.own ρ2.length :: as) io' (ρ2 ++ [some w])).take ρ2.length = ρ2 := by
              cases io' with
              | nil => exact absurd hl (by simp)
              | cons u0 io'' =>
                show (backW as io'' ((ρ2 ++ [some w]).set ρ2.length (some u0))).take ρ2.length = ρ2
                rw [(argWs_dats (ρ := (ρ2 ++ [some w]).set ρ2.length (some u0)) (ρ' := ρ2) hd).2.2 io'']
                rw [List.set_append_right _ _ (Nat.le_refl _)]
                simp
            have G3 := Rel.less (g := g2) il G' (fun i hi => (if_neg hi).symm) hno
            rw [eb] at G3
            have x3 : Ext g H ⟨Z', g2.own, g2.io⟩ H' := by
              refine ⟨fun b o h => ex.z b o (x2.z b o h), fun b o h n => ?_, fun b h => ex.fr2 b (x2.fr2 b h), fun b h => ?_, fun i b h => x2.ow i b h, x2.io, x2.ioo⟩
              · refine ex.fr b o (x2.fr b o h n) fun i e => ?_
                have e : (if i = ρ2.length then some a else g2.own i) = some b := e
                split at e
                · cases e; rw [h0] at h; cases h
                · rcases x2.ow i b e with ⟨j, q⟩ | q
                  · exact n j q
                  · rw [q] at h; cases h
              · rcases ex.nw b h with q | q | ⟨i, q⟩
                · exact x2.nw b q
                · exact .inr (.inl (Classical.byContradiction fun n => x2.fr2 b n q))
                · have q : (if i = ρ2.length then some a else g2.own i) = some b := q
                  split at q
                  · cases q; exact .inr (.inl h0)
                  · rcases x2.ow i b q with q | q
                    · exact .inr (.inr q)
                    · exact .inr (.inl q)
            refine p2 y H' _ x3 G3 (R.of_rep r fun c ec => ?_)
            obtain ⟨h1, h2, h3⟩ := ho' c ec
            refine ⟨h1, fun i q => ?_, Classical.byContradiction fun n => x2.fr2 c n h3⟩
            obtain ⟨o, z⟩ := G2.alive q
            rw [h3] at z; cases z
          · rw [if_neg hl] at p2; exact p2.elim
    · rw [if_neg hd] at p2; exact p2.elim
section
variable {X : Cx} {Wx : WX} {io : List Nat} {k : Nat} {f : Addr} {fd : FuncData} {ps : List Str} {F : Fn} {x : Str} {p pos : Pos} {e : Expr} {es : List Expr} {fe : Rho → Rs R} {h : Rho → Rs (List A)}
theorem SE_callT (Fg : FnG X.prog X.w X.K X.mg X.base k f fd ps (spF X.K F)) (hr : Room k X.A) (hgu : X.A.guards = some []) (tk : Takes X Wx) (hg : Gl X x) (hm : X.mg x = some (.ref f)) (hk : PySem.W.keepIn X.K (.ref f) = true) (hb : Binds X.K fd ps [])
    (ha : SE X Wx io e fe) (hs : SA X Wx io es h) (hdb : (x == ("__debug__" : Str)) = false) (he : starEach (e :: es) X.env = (false, eval e X.env) :: starEach es X.env) (hpl : (backTo pos (starEach es X.env)).any (·.1) = false) :
    SE X Wx io (.Call (.Name x p) (e :: es) [] pos) (evCallT F fe h) := PE.imp (pe_callG Fg hr hgu tk hg hm hk hb .nil (pa_cons ha hs he) hdb he hpl) fun _ _ _ q => t_callT q
end
end Spl

namespace Spl
open PySem PySem.Spec L2
open PyProof.Rows

/-! sorted(set(..)) of pairs of numbers -/
def pq : List Int → Int × Int
  | [x, y] => (x, y)
  | _ => (0, 0)
theorem perm_map {α β : Type} {f : α → β} {l m : List β} (p : l.Perm m) : ∀ {bs : List α}, m = bs.map f → ∃ cs : List α, l = cs.map f ∧ cs.Perm bs := by
  induction p with
  | nil =>
    intro bs e
    cases bs with
    | nil => exact ⟨[], rfl, .refl _⟩
    | cons b bs => cases e
  | cons x _ ih =>
    intro bs e
    cases bs with
    | nil => cases e
    | cons b bs =>
      rw [List.map_cons] at e
      injection e with e1 e2
      obtain ⟨cs, h1, h2⟩ := ih e2
      exact ⟨b :: cs, by rw [h1, e1]; rfl, h2.cons b⟩
  | swap x y l =>
    intro bs e
    match bs, e with
    | [], e => cases e
    | [_], e => cases e
    | b :: c :: bs, e =>
      rw [List.map_cons, List.map_cons] at e
      injection e with e1 e2
      injection e2 with e2 e3
      exact ⟨c :: b :: bs, by rw [e1, e2, e3]; rfl, List.Perm.swap b c bs⟩
  | trans _ _ ih1 ih2 =>
    intro bs e
    obtain ⟨cs, h1, h2⟩ := ih2 e
    obtain ⟨ds, h3, h4⟩ := ih1 h1
    exact ⟨ds, h3, h4.trans h2⟩
theorem sortedSetP {P : Program} {w : World} {A : Around} {E : Value → Shared → Prop} {s : Shared} {a : Addr} {L : List (Addr × List Int)} {es : Array (Int × Value)} {ep : Nat} {t : SetTable} {Q : Value → Shared → Prop}
    (R : SetTR P w s.heap a L es ep t) (hh : A.handled = none) (two : ∀ q ∈ L, q.2.length = 2)
    (hQ : ∀ s2 b (ys : List Value) (m : Nat) (M : List (Addr × List Int)), (∀ c u, s.heap.get? c = some u → s2.heap.get? c = some u) → s2.gens = s.gens → s2.os = s.os → s.heap.objs.size ≤ b →
      s2.heap.get? b = some (seqObj "list" ys.toArray m) → ys = M.map (fun q => Value.ref q.1) → M.Perm L → M.Pairwise (fun q r => leP (pq q.2) (pq r.2) = true) → Q (.ref b) s2) :
    wpAny (model P w) A (call (.builtin "sorted") [.ref a]) Q E s := by
  have ⟨ob, at0, ex0, dat0⟩ := R.ob
  have few := R.few
  refine Calls.call_function_entry kind_sorted plain_sorted entry_sorted (args_sorted1 _) ?_
  unfold Builtin.«sorted»
  have bnd : es.size < scanBound := by rw [R.size]; unfold scanBound; omega
  refine wpAny_bind (m := checkCount "sorted" 1 1 _) (wpAny_pure (wpAny_bind (collect_set (A := A.in1) hh ⟨ob, at0, ex0.1, dat0⟩ R.fits bnd R.tab.ris R.led fun s1 vs old big ge oe perm => ?_)))
  have rw0 : es.toList.map (·.2) = L.map fun q => Value.ref q.1 := by
    rw [R.rows, rowsOf, List.map_map]; rfl
  rw [rw0] at perm
  obtain ⟨N, eN, pN⟩ := perm_map perm rfl
  have lN : vs.length = L.length := by rw [eN, List.length_map, pN.length_eq]
  have small : vs.length ≤ sizeLine := by rw [sizeLine_eq]; omega
  refine wpAny_bind (wpAny_newList ?_ small)
  have new0 : (s1.heap.push (seqObj "list" vs.toArray 0)).get? s1.heap.objs.size = some (seqObj "list" vs.toArray 0) := Heap.get?_push_size _ rfl
  generalize eh : s1.heap.push (seqObj "list" vs.toArray 0) = h2 at new0 ⊢
  have keep1 : ∀ c u, s1.heap.get? c = some u → h2.get? c = some u := fun c u e => by rw [← eh]; exact Heap.get?_push_of_some _ e
  have isP : ∀ q ∈ L, Srt.IsPair h2 (.ref q.1) (pq q.2).1 (pq q.2).2 ∧ pairAt h2 (.ref q.1) = pq q.2 := by
    intro q hq
    have z := R.tup q hq
    obtain ⟨b, items, e, ⟨o, ho, hc, n, hd⟩, hi⟩ := tupInts_of (P := P) (w := w) (isT_keep z fun c u e => keep1 c u (old c u e))
    have l2 := two q hq
    match hk : q.2, l2 with
    | [x, y], _ =>
      rw [hk] at hi
      obtain ⟨its⟩ := items
      have hi : IntsAre its [x, y] := hi
      cases hi with
      | @cons _ t1 _ _ hi =>
        cases hi with
        | @cons _ t2 _ _ hi =>
          cases hi
          injection e with e
          rw [e]
          refine ⟨⟨b, o, _, _, n, rfl, ho, hc, hd⟩, ?_⟩
          obtain ⟨c, d, dt, sl⟩ := o
          have hd : dt = _ := hd
          subst hd
          exact pairAt_of ho
  have all2 : ∀ v ∈ vs, Srt.IsPair h2 v (pairAt h2 v).1 (pairAt h2 v).2 := by
    intro v hv
    rw [eN] at hv
    obtain ⟨q, hq, rfl⟩ := List.mem_map.mp hv
    have z := isP q (pN.mem_iff.mp hq)
    rw [z.2]; exact z.1
  refine wpAny_bind (wpAny_holding (wpAny_call_entry slot_list_sort ⟨_, new0, rfl⟩ entry_list_sort
    (SrtO.list_sort_ord (s := { s1 with heap := h2 }) (SrtO.swo_lex (pairAt h2)) new0 small (fun big2 => SrtO.pairs_sortableO (by omega) all2 fun o e c => ?_) fun ys o1 o2 => ⟨.none, rfl, ?_⟩) (args_list_sort _)))
  · have e : some o = some (seqObj "list" vs.toArray 0) := e.symm.trans new0
    cases e
    exact absurd (Value.type.inj c) (by decide)
  · obtain ⟨M, eM, pM⟩ := perm_map (o2.perm.trans perm) rfl
    obtain ⟨m, hm⟩ := sortedHeap_at (vs := vs) (out := ys.toArray) new0
    refine wpAny_pure ⟨_, rfl, hQ _ s1.heap.objs.size ys m M (fun c u e => ?_) ge oe big hm eM pM ?_⟩
    · have lt := Heap.lt_size (old c u e)
      refine (sortedHeap_old (Nat.ne_of_lt lt) ?_).trans (keep1 c u (old c u e))
      exact Heap.lt_size (keep1 c u (old c u e))
    · rw [eM] at o1
      have o1 : (M.map fun q => Value.ref q.1).Pairwise fun x y => SrtO.lexB (pairAt h2 y) (pairAt h2 x) = false := o1
      rw [List.pairwise_map] at o1
      refine List.Pairwise.imp_of_mem (fun {x y} hx hy h => ?_) o1
      rw [(isP x (pM.mem_iff.mp hx)).2, (isP y (pM.mem_iff.mp hy)).2] at h
      unfold leP
      rw [h]; rfl
/-- sorted(a set of pairs) -/
def rSortSP (K : PySem.W.Frag) (P : Program) (w : World) : List V → Hp → VK → Prop := fun vs H Q => ∃ (a : Addr) (L : List (Addr × List Int)), vs = [V.ref a] ∧ H a = some (SetTO P w a L) ∧ (∀ q ∈ L, SqT K H q.1 (q.2.map V.int)) ∧ (∀ q ∈ L, q.2.length = 2) ∧
  ∀ (M : List (Addr × List Int)) (b : Addr), M.Perm L → (M.map (·.2)).Nodup → M.Pairwise (fun q r => leP (pq q.2) (pq r.2) = true) → H b = none → Q (.ref b) (upd H b (.lst (M.map fun q => V.ref q.1)))
theorem vals_fst : ∀ M : List (Addr × List Int), Vals (M.map fun q => V.ref q.1) (M.map fun q => Value.ref q.1)
  | [] => .nil
  | _ :: M => .cons rfl (vals_fst M)
theorem cr_sortSP {X : Cx} (hc : X.calm = true) : CallR X (.builtin "sorted") (rSortSP X.K X.prog X.w) := by
  intro pins s σ H vs us Q I r h
  obtain ⟨a, L, rfl, ha, hk, two, q⟩ := h
  obtain rfl := Vals.ref1 r
  have T : SetT0 X.prog X.w s.heap a L := (I.hok a _ ha).1
  obtain ⟨es, ep, t, R⟩ := T.full fun z hz => I.isT (hk z hz)
  refine sortedSetP R (I.ok.hd hc) two fun s2 b ys m M old ge oe big at2 eM pM so => ?_
  have few := R.few
  have lM := pM.length_eq
  have fresh : H b = none := I.hok.fresh big
  have rv : Vals (M.map fun q => V.ref q.1) ys := by rw [eM]; exact vals_fst M
  have small : (M.map fun q => V.ref q.1).length ≤ sizeLine := by rw [List.length_map, sizeLine_eq]; omega
  obtain ⟨h2, g2, d2, t2, o2⟩ := s2
  obtain ⟨h1, g1, d1, t1, o1⟩ := s
  cases ge
  cases oe
  refine ⟨.ref b, upd H b (.lst (M.map fun q => V.ref q.1)), I.call (ch := []) (Un.laid old big fresh) (I.hok.laid old big ⟨small, ys, m, rv, at2⟩) I.bare (fun _ z => nomatch z), rfl, q M b pM ((pM.map (·.2)).nodup_iff.mpr R.nd) so fresh⟩
/-- a list of pairs -/
def prsOf : List D → Option (List (Int × Int))
  | [] => some []
  | .tup [.int x, .int y] :: ds => (prsOf ds).map ((x, y) :: ·)
  | _ => none
def ddP : List (Int × Int) → List (Int × Int)
  | [] => []
  | p :: ps => if p ∈ ps then ddP ps else p :: ddP ps
theorem ddP_mem {p : Int × Int} : ∀ {ps : List (Int × Int)}, p ∈ ddP ps ↔ p ∈ ps
  | [] => Iff.rfl
  | q :: ps => by
    unfold ddP
    split
    · rw [ddP_mem, List.mem_cons]
      refine ⟨.inr, fun h => h.elim (fun e => by rw [e]; assumption) id⟩
    · rw [List.mem_cons, List.mem_cons, ddP_mem]
theorem ddP_nodup : ∀ {ps : List (Int × Int)}, (ddP ps).Nodup
  | [] => List.nodup_nil
  | q :: ps => by
    unfold ddP
    split
    · exact ddP_nodup
    · exact List.nodup_cons.mpr ⟨fun h => by rw [ddP_mem] at h; contradiction, ddP_nodup⟩
def sortSetL (xs : List D) : Option R := (prsOf xs).bind fun ps => if ps.length < 64 then some (.tmp (.lst ((sortP (ddP ps)).map fun p => .tup [.int p.1, .int p.2]))) else none
def sortSetD : D → Option R
  | .lst xs => sortSetL xs
  | .tup xs => sortSetL xs
  | _ => none
theorem prsOf_rep {K : PySem.W.Frag} {Z : Hp} : ∀ {xs : List D} {us : List V} {ps : List (Int × Int)}, RepL K Z xs us → prsOf xs = some ps → ∃ ks : List (Addr × List Int), us = ks.map (fun q => V.ref q.1) ∧ (∀ q ∈ ks, SqT K Z q.1 (q.2.map V.int) ∧ q.2.length = 2) ∧ ks.map (fun q => pq q.2) = ps
  | [], us, ps, r, e => by
    cases e
    unfold RepL at r
    exact ⟨[], r, fun q h => absurd h (List.not_mem_nil), rfl⟩
  | d :: ds, us, ps, r, e => by
    unfold RepL at r
    obtain ⟨v, vs, rfl, r1, r2⟩ := r
    have key : ∃ x y qs, d = .tup [.int x, .int y] ∧ prsOf ds = some qs ∧ ps = (x, y) :: qs := by
      unfold prsOf at e
      split at e
      · rename_i e0; cases e0
      · rename_i x y ds' e1
        cases e1
        obtain ⟨qs, e2, rfl⟩ := Option.map_eq_some_iff.mp e
        exact ⟨x, y, qs, rfl, e2, rfl⟩
      · cases e
    obtain ⟨x, y, qs, rfl, e2, rfl⟩ := key
    obtain ⟨ks, e3, hk, e4⟩ := prsOf_rep r2 e2
    unfold RepD at r1
    obtain ⟨a, ws, rfl, st, rl⟩ := r1
    have ew : ws = [V.int x, V.int y] := RepL.ints (ns := [x, y]) rl rfl
    subst ew
    refine ⟨(a, [x, y]) :: ks, by rw [e3]; rfl, fun q hq => ?_, by rw [List.map_cons, e4]; rfl⟩
    rcases List.mem_cons.mp hq with rfl | hq
    · exact ⟨st, rfl⟩
    · exact hk q hq
theorem sortSet_core {K : PySem.W.Frag} {P : Program} {w : World} {Z H : Hp} {ks : List (Addr × List Int)} {ps : List (Int × Int)} {Q : VK} (sb : Sub Z H) (hk : ∀ q ∈ ks, SqT K Z q.1 (q.2.map V.int) ∧ q.2.length = 2) (ek : ks.map (fun q => pq q.2) = ps)
    (q : ∀ v H' Z', NewOk Z H Z' H' → RepN K H Z' H' (.tmp (.lst ((sortP (ddP ps)).map fun p => .tup [.int p.1, .int p.2]))) v → Q v H') : ∀ a L, H a = none → (∀ z ∈ L, z ∈ ks) → (∀ z ∈ ks, z.2 ∈ L.map (·.2)) → rSortSP K P w [V.ref a] (upd H a (SetTO P w a L)) Q := by
  intro a L ha sub1 sub2
  have n1 := NewOk.fresh (o := SetTO P w a L) sb ha
  refine ⟨a, L, rfl, upd_same, fun z hz => n1.1.sub.sqT (hk z (sub1 z hz)).1, fun z hz => (hk z (sub1 z hz)).2, fun M b pM nd so hb => ?_⟩
  have n2 := NewOk.fresh (o := .lst (M.map fun q => V.ref q.1)) n1.1.sub hb
  have nb : H b = none := by
    by_cases e : b = a
    · rw [e]; exact ha
    · rw [upd_ne e] at hb; exact hb
  have inM : ∀ z ∈ M, z ∈ ks := fun z hz => sub1 z (pM.mem_iff.mp hz)
  have eM : M.map (fun z => pq z.2) = sortP (ddP ps) := by
    refine sortedP_uniq ?_ (List.pairwise_map.mpr so) (sortP_le _)
    refine List.Perm.trans ?_ (sortP_perm _).symm
    have back : ∀ z z' : List Int, z.length = 2 → z'.length = 2 → pq z = pq z' → z = z' := fun z z' h h' e => by
      match z, z', h, h' with
      | [x, y], [x', y'], _, _ =>
        have e : (x, y) = (x', y') := e
        injection e with e1 e2
        rw [e1, e2]
    have nM : (M.map fun z => pq z.2).Nodup := by
      refine List.pairwise_map.mpr (List.Pairwise.imp_of_mem (fun {x y} hx hy h e => h ?_) (List.pairwise_map.mp nd))
      exact back _ _ (hk x (inM x hx)).2 (hk y (inM y hy)).2 e
    refine (List.perm_ext_iff_of_nodup nM ddP_nodup).mpr fun z => ?_
    rw [ddP_mem, ← ek, List.mem_map, List.mem_map]
    constructor
    · rintro ⟨y, hy, e⟩; exact ⟨y, inM y hy, e⟩
    · rintro ⟨y, hy, e⟩
      obtain ⟨y', hy', e'⟩ := List.mem_map.mp (sub2 y hy)
      exact ⟨y', pM.mem_iff.mpr hy', by rw [e']; exact e⟩
  have rl : RepL K Z ((sortP (ddP ps)).map fun p => .tup [.int p.1, .int p.2]) (M.map fun z => V.ref z.1) := by
    rw [← eM, List.map_map]
    have gen : ∀ N : List (Addr × List Int), (∀ z ∈ N, z ∈ ks) → RepL K Z (N.map ((fun p : Int × Int => D.tup [.int p.1, .int p.2]) ∘ fun z => pq z.2)) (N.map fun z => V.ref z.1) := by
      intro N
      induction N with
      | nil => intro _; exact .nil
      | cons z N ih =>
        intro hN
        refine .cons ?_ (ih fun y hy => hN y (List.mem_cons_of_mem _ hy))
        have hz := hk z (hN z (List.mem_cons_self ..))
        obtain ⟨b, k⟩ := z
        match k, hz.2 with
        | [x, y], _ =>
          show RepD K Z (.tup [.int x, .int y]) _
          unfold RepD
          exact ⟨b, _, rfl, hz.1, .cons repI (.cons repI .nil)⟩
    exact gen M inM
  obtain ⟨c, h1, h2, h3⟩ := RepN.lst n1.1.sub hb rl
  refine q _ _ Z (n1.1.trans n2.1) ⟨c, h1, h2, ?_⟩
  by_cases e : c = a
  · rw [e]; exact ha
  · rw [upd_ne e] at h3; exact h3
end Spl

namespace Spl
open PySem PySem.Spec L2
open PyProof.Rows

/-! set(t) of a tuple of tuples of numbers -/
abbrev newSet (w : World) : Obj := { cls := .type "set", dict := none, data := .set #[] 0 (.fresh 0 0 (!w.params.followText "set-order")) }
set_option maxHeartbeats 3200000 in
theorem setOfTupT {P : Program} {w : World} {A : Around} {E : Value → Shared → Prop} {s : Shared} {b : Addr} {its : Array Value} (ks : List (Addr × List Int)) {Q : Value → Shared → Prop} (hh : A.handled = none) (isT : s.heap.IsTuple b its) (eI : its.toList = ks.map fun z => Value.ref z.1)
    (tk0 : ∀ z ∈ ks, IsT P w s.heap z.2 z.1) (few : ks.length < 64) (hu : A.units + 3 < cLine)
    (fin : ∀ (g : Heap) (tk : Nat) L es ep t, SetTR P w g s.heap.objs.size L es ep t → Got ks ks.length L → (∀ c o, s.heap.get? c = some o → g.get? c = some o) → Q (.ref s.heap.objs.size) { s with heap := g, toks := tk }) :
    wpAny (model P w) A (call (.type "set") [.ref b]) Q E s := by
  have zI : its.size = ks.length := by
    have q := congrArg List.length eI
    rwa [Array.length_toList, List.length_map] at q
  obtain ⟨c, tl, hmro⟩ := F.called_set.mro
  have mk1 := F.called_set.made
  have mk2 := F.called_set.sub
  refine wpAny_call (codeAny_of_tree ?_)
  show wpAny _ _ (callAny (.type "set") _) _ _ _
  refine wpAny_pure ⟨Code.quiet_builtin _ (by decide +kernel), codeAny_builtin F.entry_type_call ?_⟩
  rw [Around.under_plain (weight_type_call_type "set" [.ref b] []) rfl]
  have mk3 := F.called_set.notType
  have mk4 := F.called_set.canCreate
  have mk5 := F.typeCall_set_1 (.ref b)
  repeat (any_goals (first | assumption | wp_step))
  refine codeAny_mono (code_set_led1 (.ref b) (E := E) (Q₁ := fun obj s₁ => obj = .ref s.heap.objs.size ∧ s₁ = { s with heap := s.heap.push (newSet w) }) ⟨rfl, rfl⟩) fun r s₁ hr => ?_
  cases r with
  | error e => exact hr
  | ok fl =>
    cases fl with
    | ret obj =>
      obtain ⟨rfl, rfl⟩ := hr
      have at1 : (s.heap.push (newSet w)).get? s.heap.objs.size = some (newSet w) := Heap.get?_push_size _ rfl
      have ty1 : Shared.TypeIs { s with heap := s.heap.push (newSet w) } (.ref s.heap.objs.size) "set" := ⟨_, at1, rfl⟩
      have mk6 := F.called_set.init.lookup
      have mk7 := F.called_set.init.bind (.ref s.heap.objs.size)
      repeat (any_goals (first | assumption | wp_step))
      refine codeAny_mono (codeAny_call_builtin (R := wants (fun r s₂ => r = .none ∧ ∃ g tk L es ep t, s₂ = { s with heap := g, toks := tk } ∧ SetTR P w g s.heap.objs.size L es ep t ∧ Got ks ks.length L ∧
          (∀ c o, s.heap.get? c = some o → g.get? c = some o)) E) F.called_set.init.plain F.entry_set_init (check_set_init_1 ty1 ?_)) fun r₂ s₂ hr₂ => ?_
      · obtain ⟨ob, ao, co, no, dob⟩ := isT
        obtain ⟨ocls, odict, odata, oslots⟩ := ob
        simp only at co dob
        subst co; subst dob
        have ao2 : (s.heap.push (newSet w)).get? b = some { cls := .type "tuple", dict := odict, data := .seq its no, slots := oslots } := Heap.get?_push_of_some _ ao
        have mk8 := F.sub_tuple_set
        have mk9 := F.sub_tuple_frozenset
        have mkA : (Value.type "tuple" == Value.type "dict") = false := by decide
        have isT2 : (s.heap.push (newSet w)).IsTuple b its := ⟨_, ao2, rfl, no, rfl⟩
        unfold Builtin.«set.__init__» noKeywords Builtin.Frozenset.updateFrom
        generalize hPI : pyIter = PI
        wp_walk
        subst hPI
        refine wpAny_pyIter_tuple isT2 ?_
        refine wpAny_bind (wpAny_runValue ?_)
        have lt1 : b < s.heap.objs.size := Heap.lt_size ao
        have hh3 : A.in1.in1.in1.handled = none := by simp [hh]
        have nI : b ≠ (s.heap.push (newSet w)).objs.size := by
          rw [Heap.size_push]; exact Nat.ne_of_lt (Nat.lt_succ_of_lt lt1)
        have nS : s.heap.objs.size ∉ [(s.heap.push (newSet w)).objs.size, b] := by
          rw [Heap.size_push]
          simp only [List.mem_cons, List.not_mem_nil, or_false, not_or]
          exact ⟨Nat.ne_of_lt (Nat.lt_succ_self _), Nat.ne_of_gt lt1⟩
        have val : ∀ (i : Nat) (v : Value), its[i]? = some v → ∃ z, ks[i]? = some z ∧ v = .ref z.1 := by
          intro i v hv
          rw [← Array.getElem?_toList, eI, List.getElem?_map] at hv
          obtain ⟨z, hz, e⟩ := Option.map_eq_some_iff.mp hv
          exact ⟨z, hz, e.symm⟩
        have above : ∀ c, s.heap.objs.size ≤ c → s.heap.get? c = none := by
          intro c hc
          cases q : s.heap.get? c with
          | none => rfl
          | some o => exact absurd (Nat.lt_of_lt_of_le (Heap.lt_size q) hc) (Nat.lt_irrefl _)
        refine set_update_tups ((Walks.tuple hh3 _ b nI its).toS) s.heap.objs.size nS ks zI few val s.heap tk0 (above _ (Nat.le_refl _))
          (fun c hc => above c (by rw [List.mem_singleton.mp hc, Heap.size_push]; exact Nat.le_succ _)) hu (its.size - 0) 0 _ (by omega) (Nat.zero_le _)
          ⟨⟨_, Heap.get?_push_size _ rfl, rfl, rfl⟩, (isT2.push _)⟩ (fun c o e => Heap.get?_push_of_some _ (Heap.get?_push_of_some _ e)) ?start ?stop
        case start =>
          have at2 : ((s.heap.push (newSet w)).push { cls := .type "tuple_iterator", data := .fields #[.ref b, .int 0 0] }).get? s.heap.objs.size = some (newSet w) := Heap.get?_push_of_some _ at1
          exact ⟨[], #[], 0, _, setTR_fresh at2, Got.zero ks⟩
        case stop =>
          intro s2 L es ep t mv T got old
          obtain ⟨g, g2, d2, tk2, os2⟩ := s2
          have e1 : g2 = s.gens := mv.gens
          have e2 : d2 = s.drawn := mv.drawn
          have e3 : os2 = s.os := mv.os
          subst e1 e2 e3
          rw [zI] at got
          refine wpAny_pure ?_
          show wpAny _ _ (ret Value.none) _ _ _
          exact wpAny_pure ⟨rfl, g, tk2, L, es, ep, t, rfl, T, got, old⟩
      · cases r₂ with
        | error e => exact hr₂
        | ok fl₂ =>
          cases fl₂ with
          | ret r =>
            obtain ⟨rfl, g, tk, L, es, ep, t, rfl, T, got, old⟩ := hr₂
            repeat (any_goals (first | assumption | wp_step))
            exact fin _ _ _ _ _ _ T got old
          | _ => exact hr₂.elim
    | _ => exact hr.elim
def rSetTT (K : PySem.W.Frag) (P : Program) (w : World) : List V → Hp → VK → Prop := fun xs H Q => ∃ (l : Addr) (ks : List (Addr × List Int)), xs = [V.ref l] ∧ SqT K H l (ks.map fun z => V.ref z.1) ∧ (∀ z ∈ ks, SqT K H z.1 (z.2.map V.int)) ∧ ks.length < 64 ∧
  ∀ a L, H a = none → (∀ z ∈ L, z ∈ ks) → (∀ z ∈ ks, z.2 ∈ L.map (·.2)) → Q (.ref a) (upd H a (SetTO P w a L))
theorem cr_setTT {X : Cx} (hc : X.calm = true) (hu : X.A.units + 64 < cLine) : CallR X (.type "set") (rSetTT X.K X.prog X.w) := by
  intro pins s σ H xs us Q I r h
  obtain ⟨l, ks, rfl, hl, hk, few, q⟩ := h
  obtain rfl := Vals.ref1 r
  obtain ⟨its, rv, isT, hz⟩ := I.tuple hl
  have fresh : H s.heap.objs.size = none := I.hok.fresh (Nat.le_refl _)
  refine setOfTupT (P := X.prog) (w := X.w) (its := its.toArray) ks (I.ok.hd hc) isT (by simpa using refs_of_vals rv) (fun z hz => I.isT (hk z hz)) few (by omega) fun g tk L es ep t T got old => ?_
  refine ⟨.ref s.heap.objs.size, upd H s.heap.objs.size (SetTO X.prog X.w s.heap.objs.size L), I.laid (t' := tk) old (Nat.le_refl _) (setTO_new T.t0), rfl, q _ L fresh (fun z hz => ?_) fun z hz => ?_⟩
  · exact List.mem_of_mem_take (got.sub z hz)
  · exact got.all z (by rw [List.take_length]; exact hz)
theorem CallR.or {X : Cx} {f : Value} {r r' : List V → Hp → VK → Prop} (h : CallR X f r) (h' : CallR X f r') : CallR X f (fun vs H Q => r vs H Q ∨ r' vs H Q) :=
  fun pins s σ H xs us Q I rv q => q.elim (h pins s σ H xs us Q I rv) (h' pins s σ H xs us Q I rv)
theorem sortSet_go {K : PySem.W.Frag} {P : Program} {w : World} {Z H : Hp} {ds : List D} {vs : List V} {r : R} {Q : VK} (sb : Sub Z H) (u : RepUs K Z H ds vs) (ho : op1 sortSetD ds = some r) (q : ∀ v H' Z', NewOk Z H Z' H' → RepN K H Z' H' r v → Q v H') :
    rSetOfT K P w vs H (fun v H2 => rSortSP K P w [v] H2 Q) ∨ rSetTT K P w vs H (fun v H2 => rSortSP K P w [v] H2 Q) := by
  match ds, ho with
  | [d], ho =>
    have step : ∀ xs, sortSetL xs = some r → ∃ ps, prsOf xs = some ps ∧ ps.length < 64 ∧ r = .tmp (.lst ((sortP (ddP ps)).map fun p => .tup [.int p.1, .int p.2])) := by
      intro xs h
      obtain ⟨ps, e1, e2⟩ := Option.bind_eq_some_iff.mp h
      split at e2
      · cases e2; exact ⟨ps, e1, by assumption, rfl⟩
      · cases e2
    cases d with
    | tup xs =>
      obtain ⟨ps, e1, few, rfl⟩ := step xs ho
      obtain ⟨v, rfl, l, us, rfl, hl, rx⟩ := u.one
      obtain ⟨ks, rfl, hk, ek⟩ := prsOf_rep rx e1
      exact .inr ⟨l, ks, rfl, sb.sqT hl, fun z hz => sb.sqT (hk z hz).1, by rw [← ek, List.length_map] at few; exact few, sortSet_core sb hk ek q⟩
    | lst xs =>
      obtain ⟨ps, e1, few, rfl⟩ := step xs ho
      obtain ⟨v, rfl, l, us, rfl, hl, rx⟩ := u.one
      obtain ⟨ks, rfl, hk, ek⟩ := prsOf_rep rx e1
      exact .inl ⟨l, ks, rfl, .of hl, fun z hz => sb.sqT (hk z hz).1, by rw [← ek, List.length_map] at few; exact few, sortSet_core sb hk ek q⟩
    | _ => cases ho
theorem SE_sortSet {X : Cx} {Wx : WX} {io : List Nat} {x y : Str} {e : Expr} {h : Rho → Rs (List R)} {p p2 p3 pos : Pos} (hc : X.calm = true) (hu : X.A.units + 64 < cLine) (hg : Gl X x) (hm : X.mg x = none) (hv : bootBuiltins x = some (.builtin "sorted")) (hg2 : Gl X y) (hm2 : X.mg y = none) (hv2 : bootBuiltins y = some (.type "set")) (ha : SR X Wx io [e] h)
    (hn : x ≠ "__name__") (hdb : (x == ("__debug__" : Str)) = false) (hn2 : y ≠ "__name__") (hdb2 : (y == ("__debug__" : Str)) = false) (he : starEach [e] X.env = (false, eval e X.env) :: starEach [] X.env) (hpl : (backTo p3 (starEach [] X.env)).any (·.1) = false) (hpl2 : (backTo pos (starEach [] X.env)).any (·.1) = false)
    (hs : starEach [.Call (.Name y p2) [e] [] p3] X.env = (false, eval (.Call (.Name y p2) [e] [] p3) X.env) :: starEach [] X.env) :
    SE X Wx io (.Call (.Name x p) [.Call (.Name y p2) [e] [] p3] [] pos) (evB (op1 sortSetD) h) := by
  have inner := pe_callTy (p := p2) (pos := p3) (CallR.or (cr_setOfT (X := X) hc hu) (cr_setTT (X := X) hc hu)) hg2 hm2 hv2 ha hn2 hdb2 he hpl
  refine PE.imp (pe_callB (cr_sortSP hc) hg hm hv (pa_cons inner pa_nil hs) hn hdb hs hpl2) fun σ H Q hq => ?_
  obtain ⟨ρ, g, hio, G, pp⟩ := hq
  refine tR.bind hio (.refl g H) G pp fun rs ρ1 g1 vs H1 _ x1 G1 r1 p1 => ?_
  obtain ⟨z, hz, q⟩ := p1.fin x1 G1
  obtain ⟨ds, hd, ho⟩ := Option.bind_eq_some_iff.mp hz
  exact sortSet_go G1.sub (r1.u G1 hd) ho q
end Spl

namespace Spl
open PySem PySem.Spec L2
open PyProof.Rows

/-! divmod -/
def divmodD : D → D → Option R
  | .int i, .int j => if 0 < j ∧ j.natAbs.log2 < 9000 then some (.val (.tup [.int (i / j), .int (i % j)])) else none
  | _, _ => none
theorem c_divmod {X : Cx} : CallR X (.builtin "divmod") (rOs X.K (op2 divmodD)) := by
  refine CallR.split2 fun d e r h => ?_
  unfold divmodD at h
  split at h
  · split at h <;> cases h
    rename_i hl
    refine CallR.imp call_divmodW ?_
    rintro vs H Q ⟨Z, v, u, ev, s, hx, hy, q⟩
    cases hx; cases hy
    exact ⟨_, _, ev, ⟨hl.1, PyProof.noPylong_of_log2 hl.2⟩, q_tup s q (.cons repI (.cons repI .nil))⟩
  · cases h
/-! p[k] = .. within a target -/
def tgIxC (i : Nat) (o : W → D → D → Option W) (k : Int) (d : D) (ρ : Rho) : Rs Unit := match look ρ i with
  | some w => match o w (.int k) d with
    | some w' => .ok () (ρ.set i (some w'))
    | none => .stuck
  | none => .stuck
section
variable {X : Cx} {Wx : WX} {io L : List Nat} {o ix : Expr} {pos' : Pos} {ow : W → D → D → Option W} {r : TSet}
theorem SG_ixC {i : Nat} {k : Int} (m : SetOk ow r) (hs : PSet X r) (ho : PE X o (tVar i)) (hi : PE X ix (tC (.int k)))
    (ha : ∀ v, assign (.Subscript o ix pos') X.env v = (do
      let ov ← holding [v] (eval o X.env)
      let iv ← holding [v, ov] (eval ix X.env)
      standAt pos'
      holding [v, ov, iv] (setItem ov iv v)
      release [v, ov, iv] [])) : SG X Wx io L (.Subscript o ix pos') (tgIxC i ow k) :=
  PG.imp (pg_sub ho hi hs ha) fun v σ H Q ⟨d, ρ, g, hio, G, rd, p⟩ => by
    have p : PostG ⟨X.K, Wx, io⟩ L g σ H Q (tgIxC i ow k d ρ) := p
    unfold tgIxC at p
    cases e1 : look ρ i with
    | none => rw [e1] at p; exact p.elim
    | some w =>
      rw [e1] at p
      dsimp only at p
      cases eo : ow w (.int k) d with
      | none => rw [eo] at p; exact p.elim
      | some w' =>
        rw [eo] at p
        dsimp only at p
        obtain ⟨v1, hv1, rw'⟩ := G.at_ i w e1
        refine ⟨v1, hv1, ?_⟩
        rcases rw'.own_of with ⟨d', rfl, _⟩ | ⟨b, hb⟩
        · exact absurd rfl (m.nd _ _ _ (by rw [eo]; simp) d')
        · rw [hb] at rw'
          have ev := rw'.own_some.1
          subst ev
          refine m.run X.K g.Z H w w' (.int k) d b (.int k) v _ eo G.sub rw' rfl rd fun o' r5 => ?_
          obtain ⟨G5, x5⟩ := G.write hb hv1 r5
          exact p _ _ g ⟨rfl, fun _ _ => rfl⟩ x5 G5
end
/-! a global object, as data -/
theorem SE_gobj {X : Cx} {Wx : WX} {io : List Nat} {x : Str} {p : Pos} (hg : Gl X x) (hm : X.mg x = some (.ref (He.ga X.K x))) (hd : (x == ("__debug__" : Str)) = false) : SE X Wx io (.Name x p) (evC (.fn x)) :=
  SE_const (pe_glob hg hm (v := .ref (He.ga X.K x)) rfl hd) fun _ => by unfold RepD; rfl
/-! a written dict of pairs of a def and a number -/
structure TabE (K : PySem.W.Frag) (w : World) (T : Str) (es : List (Str × Str × Int)) : Prop where
  d : ∃ ds n, KDict K w (He.ga K T) ds n
  at_ : ∀ z q m, (z, q, m) ∈ es → ∃ a, PySem.W.nsIn K (He.ga K T) z = some (some (.ref a)) ∧ ∀ Z, SqT K Z a [.ref (He.ga K q), .int m]
def tabB (K : PySem.W.Frag) (T : Str) (es : List (Str × Str × Int)) : Bool := es.all fun e => match PySem.W.nsIn K (He.ga K T) e.1 with
  | some (some (.ref a)) => (match K.lookup a with
    | some ⟨.type c, _, .seq its _, _⟩ => decide (c = "tuple") && He.relAll [.ref (He.ga K e.2.1), .int e.2.2] its.toList
    | _ => false)
  | _ => false
theorem tabB_ok {K : PySem.W.Frag} {T : Str} {es : List (Str × Str × Int)} (h : tabB K T es = true) {z q : Str} {m : Int} (hm : (z, q, m) ∈ es) : ∃ a, PySem.W.nsIn K (He.ga K T) z = some (some (.ref a)) ∧ ∀ Z, SqT K Z a [.ref (He.ga K q), .int m] := by
  have h2 := List.all_eq_true.mp h _ hm
  dsimp only at h2
  split at h2
  · rename_i a e
    split at h2
    · rename_i c od its n sl e2
      obtain ⟨h3, h4⟩ := Bool.and_eq_true_iff.mp h2
      have h3 := of_decide_eq_true h3
      subst h3
      have hv := He.relAll_ok h4
      refine ⟨a, e, fun Z => .inr ⟨_, its, n, e2, rfl, rfl, ?_, hv⟩⟩
      have := hv.length
      simp at this
      rw [sizeLine_eq]; omega
    · cases h2
  · cases h2
def inTabD (T : Str) (es : List (Str × Str × Int)) : D → D → Option R
  | .str z, .fn q => if q = T ∧ z ∈ es.map (·.1) then some (.val (.bl true)) else none
  | _, _ => none
def notinTabD (T : Str) (es : List (Str × Str × Int)) : D → D → Option R
  | .str z, .fn q => if q = T ∧ z ∈ es.map (·.1) then some (.val (.bl false)) else none
  | _, _ => none
def ixTabD (T : Str) (es : List (Str × Str × Int)) : D → D → Option R
  | .fn q, .str z => if q = T then (es.lookup z).map fun e => .val (.tup [.fn e.1, .int e.2]) else none
  | _, _ => none
section
variable {X : Cx} {T : Str} {es : List (Str × Str × Int)}
theorem op_inTab (t : TabE X.K X.w T es) : OpR X (compareOp .In) (rO2 X.K (inTabD T es)) := by
  refine OpR.split fun d e r h => ?_
  unfold inTabD at h
  split at h
  · split at h <;> cases h
    rename_i hl
    obtain ⟨rfl, hz⟩ := hl
    obtain ⟨⟨z, q, m⟩, hm, rfl⟩ := List.mem_map.mp hz
    obtain ⟨a, ha, _⟩ := t.at_ _ _ _ hm
    obtain ⟨ds, n, D⟩ := t.d
    refine OpR.imp (op_in_kd D) fun x y H Q ⟨Z, s, hx, hy, q⟩ => ?_
    cases hx; cases hy
    exact ⟨_, _, rfl, rfl, ha, q_val s q repB⟩
  · cases h
theorem op_notinTab (t : TabE X.K X.w T es) : OpR X (compareOp .NotIn) (rO2 X.K (notinTabD T es)) := by
  refine OpR.split fun d e r h => ?_
  unfold notinTabD at h
  split at h
  · split at h <;> cases h
    rename_i hl
    obtain ⟨rfl, hz⟩ := hl
    obtain ⟨⟨z, q, m⟩, hm, rfl⟩ := List.mem_map.mp hz
    obtain ⟨a, ha, _⟩ := t.at_ _ _ _ hm
    obtain ⟨ds, n, D⟩ := t.d
    refine OpR.imp (op_notIn_kd D) fun x y H Q ⟨Z, s, hx, hy, q⟩ => ?_
    cases hx; cases hy
    exact ⟨_, _, rfl, rfl, ha, q_val s q repB⟩
  · cases h
theorem lookup_mem {z : Str} {e : Str × Int} : ∀ {es : List (Str × Str × Int)}, es.lookup z = some e → (z, e.1, e.2) ∈ es
  | [], h => by cases h
  | (y, f) :: es, h => by
    rw [List.lookup] at h
    split at h
    · rename_i hb
      cases h
      have : z = y := by simpa using hb
      rw [this]; exact List.mem_cons_self ..
    · exact List.mem_cons_of_mem _ (lookup_mem h)
theorem ix_tab (t : TabE X.K X.w T es) : IxR X (rO2 X.K (ixTabD T es)) := by
  intro value slice pins s σ H x y v u Q I rx ry ⟨Z, d, e, r, h1, h2, h3, h4, h5⟩ hs
  unfold ixTabD at h4
  split at h4
  · split at h4
    · rename_i hq
      subst hq
      obtain ⟨f, hf, rfl⟩ := Option.map_eq_some_iff.mp h4
      obtain ⟨a, ha, hT⟩ := t.at_ _ _ _ (lookup_mem hf)
      obtain ⟨ds, n, D⟩ := t.d
      cases h2; cases h3
      refine ix_kdict value slice pins s σ H _ _ v u Q I rx ry ⟨_, _, .ref a, rfl, rfl, ⟨ds, n, .ref a, D.at_, D.lit, ha, rfl⟩, ?_⟩ hs
      refine q_val h1 h5 ?_
      unfold RepD
      refine ⟨a, _, rfl, hT Z, .cons ?_ (.cons repI .nil)⟩
      unfold RepD; rfl
    · cases h4
  · cases h4
end
/-! a call of a local name that holds a def -/
def tCallGL (i : Nat) (f : Addr) (sp : Sp) (dvs : List V) (Wx : WX) (t : TA) : TE := fun σ H Q => σ[i]? = some (some (.ref f)) ∧ tCallG sp dvs Wx t σ H Q
theorem pe_callGL {X : Cx} {Wx : WX} {k i : Nat} {f : Addr} {fd : FuncData} {ps : List Str} {sp : Sp} {dvs : List V} {ds : List Value} {x : Str} {p pos : Pos} {e : Expr} {es : List Expr} {t : TA} (F : FnG X.prog X.w X.K X.mg X.base k f fd ps sp) (hr : Room k X.A) (hgu : X.A.guards = some []) (tk : Takes X Wx)
    (hN : X.N[i]? = some x) (hv : Vis X.env.scope x) (hk : PySem.W.keepIn X.K (.ref f) = true) (hb : Binds X.K fd ps ds) (hd : Vals dvs ds) (ha : PA X (e :: es) t) (hdb : (x == ("__debug__" : Str)) = false) (hcd : (x == ("__classdict__" : Str)) = false)
    (he : starEach (e :: es) X.env = (false, eval e X.env) :: starEach es X.env) (hpl : (backTo pos (starEach es X.env)).any (·.1) = false) : PE X (.Call (.Name x p) (e :: es) [] pos) (tCallGL i f sp dvs Wx t) := by
  refine ⟨fun pins s σ H Q I ⟨hs, h⟩ => wpAny_Call_Name_kw (thn ((pe_var (pos := p) hN hv hdb hcd).run pins s σ H (fun v H1 => v = .ref f ∧ H1 = H) I ⟨.ref f, hs, rfl, rfl⟩) ?_)⟩
  rintro u s1 ⟨v, H1, I1, r1, rfl, rfl⟩
  cases r1
  refine PySem.W.callWith_K (h₀ := X.base) I.ok.mod.kin hk (thn (ha.run pos pins s1 σ _ _ I1 h) ?_) he hpl
  rintro us s2 ⟨vs, H2, I2, r, q⟩
  exact ⟨I2.kIn, run_g F hr hgu tk hb hd I2 r q⟩
def evCallV (i : Nat) (tbl : List (Str × Fn)) (h : Rho → Rs (List A)) (ρ : Rho) : Rs R := match look ρ i with
  | some (.dat (.fn q)) => match tbl.lookup q with
    | some F => evCall F [] h ρ
    | none => .stuck
  | _ => .stuck
/-- a def that can be called here -/
structure CanC (X : Cx) (q : Str) (F : Fn) : Prop where
  ex : ∃ k fd ps, FnG X.prog X.w X.K X.mg X.base k (He.ga X.K q) fd ps (spF X.K F) ∧ Room k X.A ∧ PySem.W.keepIn X.K (.ref (He.ga X.K q)) = true ∧ Binds X.K fd ps []
theorem SE_callV {X : Cx} {Wx : WX} {io : List Nat} {i : Nat} {tbl : List (Str × Fn)} {x : Str} {p pos : Pos} {e : Expr} {es : List Expr} {h : Rho → Rs (List A)} (hc : ∀ q F, tbl.lookup q = some F → CanC X q F) (hgu : X.A.guards = some []) (tk : Takes X Wx)
    (hN : X.N[i]? = some x) (hv : Vis X.env.scope x) (ha : SA X Wx io (e :: es) h) (hdb : (x == ("__debug__" : Str)) = false) (hcd : (x == ("__classdict__" : Str)) = false)
    (he : starEach (e :: es) X.env = (false, eval e X.env) :: starEach es X.env) (hpl : (backTo pos (starEach es X.env)).any (·.1) = false) : SE X Wx io (.Call (.Name x p) (e :: es) [] pos) (evCallV i tbl h) := by
  refine ⟨fun pins s σ H Q I ⟨ρ, g, hio, G, q⟩ => ?_⟩
  unfold evCallV at q
  split at q
  · rename_i f hf
    split at q
    · rename_i F hF
      obtain ⟨k, fd, ps, Fg, hr, hk, hb⟩ := (hc f F hF).ex
      obtain ⟨v, hv2, rv⟩ := G.at_ i _ hf
      have ev : v = .ref (He.ga X.K f) := by
        have := rv.2
        unfold RepD at this
        exact this
      subst ev
      exact (pe_callGL (i := i) Fg hr hgu tk hN hv hk hb (dvs := []) .nil ha hdb hcd he hpl).run pins s σ H Q I ⟨hv2, t_call .nil ⟨ρ, g, hio, G, q⟩⟩
    · exact q.elim
  · exact q.elim
/-! d.get(k, e) -/
def isDicD : D → Bool
  | .dic _ _ => true
  | _ => false
def getR : D → Option D → R → Rho → Rs R
  | .dic ks ds, some e, .val x, ρ => if allInl ks = true then (match keyD e with
    | some k => .ok (.val ((dlook ks ds k).getD x)) ρ
    | none => .stuck) else .stuck
  | _, _, _, _ => .stuck
def evGet2 (i : Nat) (fk fd : Rho → Rs R) (ρ : Rho) : Rs R := match look ρ i with
  | some w0 => if isDicD w0.view = true then (fk ρ).bind fun r ρ1 => (fd ρ1).bind fun q ρ2 => match look ρ2 i with
    | some w => getR w.view (r.view ρ2) q ρ2
    | none => .stuck
    else .stuck
  | none => .stuck
theorem SE_get2 {X : Cx} {Wx : WX} {io : List Nat} {i : Nat} {o e f : Expr} {apos cpos : Pos} {fk fd : Rho → Rs R} (hu : X.A.units + 1 < cLine) (ho : PE X o (tVar i)) (he : SE X Wx io e fk) (hf : SE X Wx io f fd) (m : M2 X o "get" apos e f cpos) : SE X Wx io (.Call (.Attribute o "get" apos) [e, f] [] cpos) (evGet2 i fk fd) :=
  PE.imp (pe_dget2 hu ho he hf m) fun σ H Q ⟨ρ, g, hio, G, p⟩ => by
    unfold evGet2 at p
    cases e0 : look ρ i with
    | none => rw [e0] at p; exact p.elim
    | some w0 =>
      rw [e0] at p
      dsimp only at p
      by_cases hd : isDicD w0.view = true
      · rw [if_pos hd] at p
        obtain ⟨v0, hv0, rw0⟩ := G.at_ i w0 e0
        have u0 := rw0.u G.sub
        cases ev : w0.view with
        | dic ks ds =>
          rw [ev] at u0
          obtain ⟨a, vs, rfl, di, rl⟩ := u0
          refine ⟨.ref a, hv0, a, rfl, ?_, ?_⟩
          · rcases di.2.2 with ⟨kk, _, h⟩ | ⟨kk, _, h⟩
            · exact .inl ⟨_, h⟩
            · exact .inr ⟨_, h⟩
          · refine tS.bind hio (.refl g H) G p fun r ρ1 g1 y H1 _ x1 G1 r1 p1 => ?_
            refine tS.bind hio x1 G1 p1 fun q ρ2 g2 z H2 x12 x2 G2 r2 p2 => ?_
            cases e2 : look ρ2 i with
            | none => rw [e2] at p2; exact p2.elim
            | some w =>
              rw [e2] at p2
              dsimp only at p2
              obtain ⟨v1, hv1, rw1⟩ := G2.at_ i w e2
              rw [hv0] at hv1
              cases hv1
              have u1 := rw1.u G2.sub
              have key : ∀ (W0 : D) (E0 : Option D), w.view = W0 → r.view ρ2 = E0 → Post ⟨X.K, Wx, io⟩ g σ H (repR ⟨X.K, Wx, io⟩ σ H) Q (getR W0 E0 q ρ2) → ∃ o, DGet H2 a y o ∧ Q (o.getD z) H2 := by
                intro W0 E0 ew ee p2
                match W0, E0, q, p2, ew, ee, r2 with
                | .dic ks' ds', some e', .val x', p2, ew, ee, r2 =>
                  have p2 : Post ⟨X.K, Wx, io⟩ g σ H (repR ⟨X.K, Wx, io⟩ σ H) Q (if allInl ks' = true then (match keyD e' with
                    | some k => .ok (.val ((dlook ks' ds' k).getD x')) ρ2
                    | none => .stuck) else .stuck) := p2
                  by_cases hal : allInl ks' = true
                  · rw [if_pos hal] at p2
                    cases hk' : keyD e' with
                    | none => rw [hk'] at p2; exact p2.elim
                    | some k' =>
                      rw [hk'] at p2
                      rw [ew] at u1
                      obtain ⟨a', vs', ea, di', rl'⟩ := u1
                      cases ea
                      obtain ⟨kk, rfl, hl, nd, rd⟩ := di'.plain hal
                      obtain ⟨k, rfl, rfl⟩ := keyD_rep ((r1.ext x12).u G2 ee) hk'
                      have lv := dlook_val (k := k) rl' hl
                      dsimp only at p2
                      cases el : dlook (kk.map Sum.inl) ds' (.inl k) with
                      | some d' =>
                        rw [el] at p2
                        obtain ⟨w', hw', rw'⟩ := lv.1 d' el
                        exact ⟨some w', .inl ⟨_, k, rd, rfl, hw'.symm⟩, Post.val x2 G2 p2 rw'⟩
                      | none =>
                        rw [el] at p2
                        exact ⟨none, .inl ⟨_, k, rd, rfl, (lv.2 el).symm⟩, Post.val x2 G2 p2 r2⟩
                  · rw [if_neg hal] at p2; exact p2.elim
              exact key _ _ rfl rfl p2
        | _ => rw [ev] at hd; cases hd
      · rw [if_neg hd] at p; exact p.elim
end Spl

namespace Spl
open PySem PySem.Spec L2
open PyProof.Rows

/-! the head with tables -/
def obsX (ck : PySem.W.Frag → Bool) (fa : List He.Fa) (fn : List He.DefD) (ts : List He.Tab) (K : PySem.W.Frag) : Bool × He.AlT := (ck K, He.obsT fa fn ts K)
def valX (fn : List He.DefD) (ts : List He.Tab) (w : World) : Bool × He.AlT := (true, He.valT fn ts w)
def obsXG (n : Nat) (ck : PySem.W.Frag → Bool) (fa : List He.Fa) (fn : List He.DefD) (ts : List He.Tab) (g : Addr → Option Obj) : Bool × He.AlT := obsX ck fa fn ts (He.frG g (He.asD g n))
def hookX (n : Nat) (ck : PySem.W.Frag → Bool) (fa : List He.Fa) (fn : List He.DefD) (ts : List He.Tab) : PySem.W.Hook where
  α := Bool × He.AlT
  obs := fun s => obsXG n ck fa fn ts s.heap.get?
  val := fun w => valX fn ts w
  says := fun w h => ∃ K : PySem.W.Frag, K.In h ∧ obsX ck fa fn ts K = valX fn ts w
  of := fun _ _ e => ⟨_, He.frG_in, e⟩
  keeps := fun _ _ _ ⟨K, hK, c⟩ k => ⟨K, PySem.W.Frag.In.keeps hK k, c⟩
theorem obsXG_eq {n : Nat} {ck : PySem.W.Frag → Bool} {fa : List He.Fa} {fn : List He.DefD} {ts : List He.Tab} {g : Addr → Option Obj} {s : Shared} (h : ∀ a, g a = s.heap.get? a) : obsXG n ck fa fn ts g = (hookX n ck fa fn ts).obs s := by
  have e : g = s.heap.get? := funext h
  rw [e] <;> rfl
section
variable {ck : PySem.W.Frag → Bool} {fa : List He.Fa} {fn : List He.DefD} {ts : List He.Tab} {w : World} {K : PySem.W.Frag}
theorem saysX_t (c : obsX ck fa fn ts K = valX fn ts w) : He.SaysT fa fn ts w K := congrArg (fun z : Bool × He.AlT => z.2) c
theorem saysX_c (c : obsX ck fa fn ts K = valX fn ts w) : ck K = true := congrArg (fun z : Bool × He.AlT => z.1) c
end
/-! t * n, n = 1 too -/
theorem tuple_mulOne (l : Addr) (items : Array Value) (n : Nat) (dd : Option Addr) (sl : Array (Option Value)) (u : Tok) :
    Meets (Builtin.«tuple.__mul__» ⟨[.ref l, .int 1 u], []⟩) (fun _ R s => s.heap.get? l = some { cls := .type "tuple", dict := dd, data := .seq items n, slots := sl } ∧ R (.ok (.ret (Value.ref l))) s) :=
  .of_wp fun prog w A R s h => by
    obtain ⟨hp, g, d, tk, os⟩ := s
    obtain ⟨hl, h⟩ := h
    have f1 := AutoSeq1.idx_int
    have k1 : (items.isEmpty || (1 : Int) == 1) = true := by simp
    wp_walk using wpAny_loadPart' hl
    repeat (first
      | (refine wpAny_ite_false (decide_eq_false (by decide)) ?_; wp_walk using wpAny_loadPart' hl)
      | (refine wpAny_ite_true (decide_eq_true k1) ?_; wp_walk using wpAny_loadPart' hl))
    exact ⟨_, rfl, h⟩
end Spl

namespace Spl
open PySem PySem.Spec L2
open PyProof.Rows

/-! sorted(set(xs)) of a list of numbers -/
abbrev newSetI (w : World) : Obj := { cls := .type "set", dict := none, data := .set #[] 0 (.fresh 0 0 (!w.params.followText "set-order")) }
set_option maxHeartbeats 3200000 in
theorem setOfListI {P : Program} {w : World} {A : Around} {E : Value → Shared → Prop} {s : Shared} {b : Addr} {its : Array Value} (ns : List Int) {Q : Value → Shared → Prop} (hh : A.handled = none) (isT : s.heap.IsList b its) (eI : IntsAre its.toList ns) (few : ns.length + 1 < scanBound)
    (fin : ∀ (g : Heap) (tk m : Nat), SetR w g s.heap.objs.size (fun j => decide (j ∈ ns)) m → m ≤ ns.length → (∀ c o, s.heap.get? c = some o → g.get? c = some o) → Q (.ref s.heap.objs.size) { s with heap := g, toks := tk }) :
    wpAny (model P w) A (call (.type "set") [.ref b]) Q E s := by
  have zI : its.size = ns.length := by
    have q := IntsAre.length eI
    rwa [Array.length_toList] at q
  obtain ⟨c, tl, hmro⟩ := F.called_set.mro
  have mk1 := F.called_set.made
  have mk2 := F.called_set.sub
  refine wpAny_call (codeAny_of_tree ?_)
  show wpAny _ _ (callAny (.type "set") _) _ _ _
  refine wpAny_pure ⟨Code.quiet_builtin _ (by decide +kernel), codeAny_builtin F.entry_type_call ?_⟩
  rw [Around.under_plain (weight_type_call_type "set" [.ref b] []) rfl]
  have mk3 := F.called_set.notType
  have mk4 := F.called_set.canCreate
  have mk5 := F.typeCall_set_1 (.ref b)
  repeat (any_goals (first | assumption | wp_step))
  refine codeAny_mono (code_set_led1 (.ref b) (E := E) (Q₁ := fun obj s₁ => obj = .ref s.heap.objs.size ∧ s₁ = { s with heap := s.heap.push (newSetI w) }) ⟨rfl, rfl⟩) fun r s₁ hr => ?_
  cases r with
  | error e => exact hr
  | ok fl =>
    cases fl with
    | ret obj =>
      obtain ⟨rfl, rfl⟩ := hr
      have at1 : (s.heap.push (newSetI w)).get? s.heap.objs.size = some (newSetI w) := Heap.get?_push_size _ rfl
      have ty1 : Shared.TypeIs { s with heap := s.heap.push (newSetI w) } (.ref s.heap.objs.size) "set" := ⟨_, at1, rfl⟩
      have mk6 := F.called_set.init.lookup
      have mk7 := F.called_set.init.bind (.ref s.heap.objs.size)
      repeat (any_goals (first | assumption | wp_step))
      refine codeAny_mono (codeAny_call_builtin (R := wants (fun r s₂ => r = .none ∧ ∃ g tk m, s₂ = { s with heap := g, toks := tk } ∧ SetR w g s.heap.objs.size (fun j => decide (j ∈ ns)) m ∧ m ≤ ns.length ∧
          (∀ c o, s.heap.get? c = some o → g.get? c = some o)) E) F.called_set.init.plain F.entry_set_init (check_set_init_1 ty1 ?_)) fun r₂ s₂ hr₂ => ?_
      · obtain ⟨ob, ao, co, no, dob⟩ := isT
        obtain ⟨ocls, odict, odata, oslots⟩ := ob
        simp only at co dob
        subst co; subst dob
        have ao2 : (s.heap.push (newSetI w)).get? b = some { cls := .type "list", dict := odict, data := .seq its no, slots := oslots } := Heap.get?_push_of_some _ ao
        have mk8 := F.sub_list_set
        have mk9 := F.sub_list_frozenset
        have mkA : (Value.type "list" == Value.type "dict") = false := by decide
        have isT2 : (s.heap.push (newSetI w)).IsList b its := ⟨_, ao2, rfl, no, rfl⟩
        unfold Builtin.«set.__init__» noKeywords Builtin.Frozenset.updateFrom
        generalize hPI : pyIter = PI
        wp_walk
        subst hPI
        refine wpAny_pyIter_list isT2 ?_
        refine wpAny_bind (wpAny_runValue ?_)
        have lt1 : b < s.heap.objs.size := Heap.lt_size ao
        have hh3 : A.in1.in1.in1.handled = none := by simp [hh]
        have nI : b ≠ (s.heap.push (newSetI w)).objs.size := by
          rw [Heap.size_push]; exact Nat.ne_of_lt (Nat.lt_succ_of_lt lt1)
        have nS : s.heap.objs.size ∉ [(s.heap.push (newSetI w)).objs.size, b] := by
          rw [Heap.size_push]
          simp only [List.mem_cons, List.not_mem_nil, or_false, not_or]
          exact ⟨Nat.ne_of_lt (Nat.lt_succ_self _), Nat.ne_of_gt lt1⟩
        have val : ∀ (i : Nat) (v : Value), its[i]? = some v → ∃ z t, ns[i]? = some z ∧ v = .int z t := by
          intro i v hv
          have lt2 : i < ns.length := by rw [← zI]; exact (Array.getElem?_eq_some_iff.mp hv).1
          obtain ⟨t, e⟩ := IntsAre.int_at eI i v (by rw [Array.getElem?_toList]; exact hv)
          refine ⟨ns[i], t, List.getElem?_eq_getElem lt2, ?_⟩
          rw [e, List.getD_eq_getElem?_getD, List.getElem?_eq_getElem lt2]; rfl
        refine set_update_ints ((Walks.list hh3 _ b nI its).toS) s.heap.objs.size nS ns zI few val (its.size - 0) 0 _ (by omega) (Nat.zero_le _)
          ⟨⟨_, Heap.get?_push_size _ rfl, rfl, rfl⟩, (isT2.push _)⟩ ?start ?stop
        case start =>
          have at2 : ((s.heap.push (newSetI w)).push { cls := .type "list_iterator", data := .fields #[.ref b, .int 0 0] }).get? s.heap.objs.size = some (newSetI w) := Heap.get?_push_of_some _ at1
          exact ⟨0, Nat.le_refl 0, setR_new_at at2⟩
        case stop =>
          intro s2 m mv le R
          obtain ⟨g, g2, d2, tk2, os2⟩ := s2
          have e1 : g2 = s.gens := mv.gens
          have e2 : d2 = s.drawn := mv.drawn
          have e3 : os2 = s.os := mv.os
          subst e1 e2 e3
          rw [zI] at le
          refine wpAny_pure ?_
          show wpAny _ _ (ret Value.none) _ _ _
          refine wpAny_pure ⟨rfl, g, tk2, m, rfl, R, le, fun c o e => ?_⟩
          have lt3 : c < s.heap.objs.size := Heap.lt_size e
          have nc : c ≠ (s.heap.push (newSetI w)).objs.size := by rw [Heap.size_push]; exact Nat.ne_of_lt (Nat.lt_succ_of_lt lt3)
          exact mv.heap c o (by simp only [List.mem_cons, List.not_mem_nil, or_false, not_or]; exact ⟨Nat.ne_of_lt lt3, nc⟩) (Heap.get?_push_of_some _ (Heap.get?_push_of_some _ e))
      · cases r₂ with
        | error e => exact hr₂
        | ok fl₂ =>
          cases fl₂ with
          | ret r =>
            obtain ⟨rfl, g, tk, m, rfl, T, got, old⟩ := hr₂
            repeat (any_goals (first | assumption | wp_step))
            exact fin _ _ _ T got old
          | _ => exact hr₂.elim
    | _ => exact hr.elim
end Spl

namespace Spl
open PySem PySem.Spec L2
open PyProof.Rows

def rSetLI (K : PySem.W.Frag) (w : World) : List V → Hp → VK → Prop := fun xs H Q => ∃ (l : Addr) (ns : List Int), xs = [V.ref l] ∧ SqL K H l (ns.map V.int) ∧ ns.length < 64 ∧
  ∀ a m, H a = none → m ≤ ns.length → Q (.ref a) (upd H a (SetO w a (fun j => decide (j ∈ ns)) m))
theorem cr_setLI {X : Cx} (hc : X.calm = true) : CallR X (.type "set") (rSetLI X.K X.w) := by
  intro pins s σ H xs us Q I r h
  obtain ⟨l, ns, rfl, hl, few, q⟩ := h
  obtain rfl := Vals.ref1 r
  obtain ⟨its, rv, isL, hz⟩ := I.list hl
  have fresh : H s.heap.objs.size = none := I.hok.fresh (Nat.le_refl _)
  refine setOfListI (P := X.prog) (w := X.w) (its := its.toArray) ns (I.ok.hd hc) isL.isList (by simpa using rv.ints) (by unfold scanBound; omega) fun g tk m R le old => ?_
  exact ⟨.ref s.heap.objs.size, upd H s.heap.objs.size (SetO X.w s.heap.objs.size (fun j => decide (j ∈ ns)) m), I.laid (t' := tk) old (Nat.le_refl _) (setO_new R), rfl, q _ m fresh le⟩
def ddI : List Int → List Int
  | [] => []
  | p :: ps => if p ∈ ps then ddI ps else p :: ddI ps
theorem ddI_mem {p : Int} : ∀ {ps : List Int}, p ∈ ddI ps ↔ p ∈ ps
  | [] => Iff.rfl
  | q :: ps => by
    unfold ddI
    split
    · rw [ddI_mem, List.mem_cons]
      refine ⟨.inr, fun h => h.elim (fun e => by rw [e]; assumption) id⟩
    · rw [List.mem_cons, List.mem_cons, ddI_mem]
theorem ddI_nodup : ∀ {ps : List Int}, (ddI ps).Nodup
  | [] => List.nodup_nil
  | q :: ps => by
    unfold ddI
    split
    · exact ddI_nodup
    · exact List.nodup_cons.mpr ⟨fun h => by rw [ddI_mem] at h; contradiction, ddI_nodup⟩
def sortSetI : D → Option R
  | .lst xs => (D.intsOf xs).bind fun ns => if ns.length < 64 then some (.tmp (.lst ((sortI (ddI ns)).map D.int))) else none
  | _ => none
theorem sortSetI_go {K : PySem.W.Frag} {w : World} {Z H : Hp} {ds : List D} {vs : List V} {r : R} {Q : VK} (sb : Sub Z H) (u : RepUs K Z H ds vs) (ho : op1 sortSetI ds = some r) (q : ∀ v H' Z', NewOk Z H Z' H' → RepN K H Z' H' r v → Q v H') :
    rSetLI K w vs H (fun v H2 => rSortedSet w [v] H2 Q) := by
  match ds, ho with
  | [d], ho =>
    cases d with
    | lst xs =>
      obtain ⟨ns, e1, e2⟩ := Option.bind_eq_some_iff.mp ho
      by_cases few : ns.length < 64
      · rw [if_pos few] at e2
        cases e2
        obtain ⟨v, rfl, l, us, rfl, hl, rx⟩ := u.one
        have eu := rx.ints e1
        subst eu
        refine ⟨l, ns, rfl, .of hl, few, fun a m ha le => ?_⟩
        have n1 := NewOk.fresh (o := SetO w a (fun j => decide (j ∈ ns)) m) sb ha
        refine ⟨a, _, m, rfl, upd_same, by omega, fun ys b so mem ln hb => ?_⟩
        have n2 := NewOk.fresh (o := .lst (ys.map V.int)) n1.1.sub hb
        have nb : ∀ c, upd H a (SetO w a (fun j => decide (j ∈ ns)) m) c = none → H c = none := fun c h => by
          by_cases e : c = a
          · rw [e]; exact ha
          · rw [upd_ne e] at h; exact h
        have ey : ys = sortI (ddI ns) := by
          have ny : ys.Nodup := so.imp fun h => by omega
          refine sorted_uniq (List.Perm.trans ?_ (sortI_perm _).symm) (so.imp fun h => by omega) (sortI_le _)
          refine (List.perm_ext_iff_of_nodup ny ddI_nodup).mpr fun z => ?_
          rw [mem z, decide_eq_true_iff, ddI_mem]
        rw [← ey] at q
        obtain ⟨c, h1, h2, h3⟩ := RepN.lst n1.1.sub hb (RepL.intsOf (K := K) (Z := Z) (ns := ys))
        exact q _ _ Z (n1.1.trans n2.1) ⟨c, h1, h2, nb c h3⟩
      · rw [if_neg few] at e2; cases e2
    | _ => cases ho
theorem SE_sortSetI {X : Cx} {Wx : WX} {io : List Nat} {x y : Str} {e : Expr} {h : Rho → Rs (List R)} {p p2 p3 pos : Pos} (hc : X.calm = true) (hg : Gl X x) (hm : X.mg x = none) (hv : bootBuiltins x = some (.builtin "sorted")) (hg2 : Gl X y) (hm2 : X.mg y = none) (hv2 : bootBuiltins y = some (.type "set")) (ha : SR X Wx io [e] h)
    (hn : x ≠ "__name__") (hdb : (x == ("__debug__" : Str)) = false) (hn2 : y ≠ "__name__") (hdb2 : (y == ("__debug__" : Str)) = false) (he : starEach [e] X.env = (false, eval e X.env) :: starEach [] X.env) (hpl : (backTo p3 (starEach [] X.env)).any (·.1) = false) (hpl2 : (backTo pos (starEach [] X.env)).any (·.1) = false)
    (hs : starEach [.Call (.Name y p2) [e] [] p3] X.env = (false, eval (.Call (.Name y p2) [e] [] p3) X.env) :: starEach [] X.env) :
    SE X Wx io (.Call (.Name x p) [.Call (.Name y p2) [e] [] p3] [] pos) (evB (op1 sortSetI) h) := by
  have inner := pe_callTy (p := p2) (pos := p3) (cr_setLI (X := X) hc) hg2 hm2 hv2 ha hn2 hdb2 he hpl
  refine PE.imp (pe_callB (cr_sortedSet hc) hg hm hv (pa_cons inner pa_nil hs) hn hdb hs hpl2) fun σ H Q hq => ?_
  obtain ⟨ρ, g, hio, G, pp⟩ := hq
  refine tR.bind hio (.refl g H) G pp fun rs ρ1 g1 vs H1 _ x1 G1 r1 p1 => ?_
  obtain ⟨z, hz, q⟩ := p1.fin x1 G1
  obtain ⟨ds, hd, ho⟩ := Option.bind_eq_some_iff.mp hz
  exact sortSetI_go G1.sub (r1.u G1 hd) ho q
/-! t * n -/
noncomputable def mulT : D → D → Option R
  | .tup xs, .int k => if k = 1 then some (.val (.tup xs)) else mulD (.tup xs) (.int k)
  | d, e => mulD d e
theorem op_mulOne {X : Cx} : OpR X (binaryOp .Mult) (fun x y H Q => ∃ l xs, x = .ref l ∧ y = .int 1 ∧ SqT X.K H l xs ∧ Q (.ref l) H) := by
  intro pins s σ H x y v u Q I rx ry h
  obtain ⟨l, xs, rfl, rfl, hT, q⟩ := h
  cases rx
  obtain ⟨t, rfl⟩ := ry
  obtain ⟨its, r, ⟨⟨cls, dd, data, sl⟩, ho, hc, n, hd⟩, hs⟩ := I.tuple hT
  simp only at hc hd
  subst hc hd
  refine wpAny_binaryOp_repeat_ref (T := "tuple") (U := "int") (by decide) ⟨_, ho, rfl⟩ (fun s' => typeIs_int s' 1 t) noFill_tuple_mul F.fills_int_mul F.slot_int_rmul repeat_tuple F.slot_int_index.lookup
    (call_meets F.slot_int_rmul (typeIs_int s 1 t) F.entry_int_rmul (F.args_int_rmul_2 _ _) (int_rmul_tuple 1 t l its.toArray n dd sl)
      ⟨ho, rfl, ⟨_, ho, rfl⟩, call_meets F.slot_tuple_mul ⟨_, ho, rfl⟩ F.entry_tuple_mul (F.args_tuple_mul_2 _ _) (tuple_mulOne l its.toArray n dd sl t) ⟨ho, ?_⟩⟩)
  exact ⟨.ref l, H, I, rfl, q⟩
theorem op_mulT {X : Cx} : OpR X (binaryOp .Mult) (rO2 X.K mulT) := by
  refine OpR.split fun d e r h => ?_
  have old : mulD d e = some r → OpR X (binaryOp .Mult) (fun x y H Q => ∃ Z, Sub Z H ∧ RepU X.K Z H d x ∧ RepU X.K Z H e y ∧ ∀ v H' Z', NewOk Z H Z' H' → RepN X.K H Z' H' r v → Q v H') := fun h' =>
    OpR.imp op_mulD fun x y H Q ⟨Z, s, hx, hy, q⟩ => ⟨Z, d, e, r, s, hx, hy, h', q⟩
  unfold mulT at h
  split at h
  · rename_i xs k
    split at h
    · rename_i hk
      cases h
      subst hk
      exact OpR.imp op_mulOne fun x y H Q ⟨Z, s, ⟨a, vs, ex, lx, rx⟩, hy, q⟩ => by
        cases hy
        exact ⟨a, vs, ex, rfl, s.sqT lx, q_val s q (by unfold RepD; exact ⟨a, vs, rfl, lx, rx⟩)⟩
    · exact old h
  · exact old h
/-! str of a number -/
def strI : D → Option R
  | .int i => if i.natAbs.log2 < 1920 then some (.val (.str (toString i))) else none
  | _ => none
theorem c_strI {X : Cx} : CallR X (.type "str") (rOs X.K (op1 strI)) := by
  refine CallR.split1 fun d r h => ?_
  unfold strI at h
  split at h
  · split at h <;> cases h
    rename_i hl
    refine CallR.imp call_str_int ?_
    rintro vs H Q ⟨Z, v, ev, s, hx, q⟩
    cases hx
    exact ⟨_, ev, hl, q_val s q repS⟩
  · cases h
theorem canNil {X : Cx} : ∀ q F, ([] : List (Str × Fn)).lookup q = some F → CanC X q F := fun _ _ h => by cases h
theorem canCons {X : Cx} {q0 : Str} {F0 : Fn} {tbl : List (Str × Fn)} (c : CanC X q0 F0) (h : ∀ q F, tbl.lookup q = some F → CanC X q F) : ∀ q F, ((q0, F0) :: tbl).lookup q = some F → CanC X q F := fun q F e => by
  rw [List.lookup] at e
  split at e
  · rename_i hb
    cases e
    have : q = q0 := by simpa using hb
    rw [this]; exact c
  · exact h q F e
/-! repr of a truth value, None, a number -/
def reprX : D → Option R
  | .bl b => some (.val (.str (if b then "True" else "False")))
  | .non => some (.val (.str "None"))
  | .int i => if i.natAbs.log2 < 1920 then some (.val (.str (toString i))) else none
  | d => reprD d
@[simp] theorem reprX_lst {xs : List D} : reprX (.lst xs) = reprD (.lst xs) := rfl
@[simp] theorem reprX_tup {xs : List D} : reprX (.tup xs) = reprD (.tup xs) := rfl
@[simp] theorem reprX_bl {b : Bool} : reprX (.bl b) = some (.val (.str (if b then "True" else "False"))) := rfl
@[simp] theorem reprX_non : reprX .non = some (.val (.str "None")) := rfl
theorem call_repr_bool {X : Cx} : CallR X (.builtin "repr") (fun xs H Q => ∃ b, xs = [.bl b] ∧ Q (.str (if b then "True" else "False")) H) := by
  intro pins s σ H xs us Q I r h
  obtain ⟨b, rfl, q⟩ := h
  obtain ⟨u, rfl, ru⟩ := vals1 r
  obtain rfl : u = Value.bool b := ru
  exact PySem.P.repr_of_bool ⟨.str _, H, I.tok _, ⟨_, rfl⟩, q⟩
theorem call_repr_none {X : Cx} : CallR X (.builtin "repr") (fun xs H Q => xs = [.non] ∧ Q (.str "None") H) := by
  intro pins s σ H xs us Q I r h
  obtain ⟨rfl, q⟩ := h
  obtain ⟨u, rfl, ru⟩ := vals1 r
  obtain rfl : u = Value.none := ru
  exact PySem.P.repr_of_none ⟨.str _, H, I.tok _, ⟨_, rfl⟩, q⟩
theorem c_reprX {X : Cx} (hg : X.A.guards = some []) (hu : X.A.units + 64 < cLine) : CallR X (.builtin "repr") (rOs X.K (op1 reprX)) := by
  refine CallR.split1 fun d r h => ?_
  have old : reprD d = some r → CallR X (.builtin "repr") (fun vs H Q => ∃ Z x, vs = [x] ∧ Sub Z H ∧ RepU X.K Z H d x ∧ ∀ v H' Z', NewOk Z H Z' H' → RepN X.K H Z' H' r v → Q v H') := fun h =>
    CallR.imp (c_repr hg hu) fun vs H Q ⟨Z, x, ev, s, u, q⟩ => ⟨Z, [d], r, s, ev ▸ .cons u .nil, h, q⟩
  cases d with
  | bl b =>
    cases h
    refine CallR.imp call_repr_bool ?_
    rintro vs H Q ⟨Z, v, ev, s, hx, q⟩
    cases hx
    exact ⟨_, ev, q_val s q repS⟩
  | non =>
    cases h
    refine CallR.imp call_repr_none ?_
    rintro vs H Q ⟨Z, v, ev, s, hx, q⟩
    cases hx
    exact ⟨ev, q_val s q repS⟩
  | int i =>
    have h1 : (if i.natAbs.log2 < 1920 then some (R.val (.str (toString i))) else none) = some r := h
    by_cases hl : i.natAbs.log2 < 1920
    case neg => rw [if_neg hl] at h1; cases h1
    rw [if_pos hl] at h1
    cases h1
    refine CallR.imp SkE.call_repr_int ?_
    rintro vs H Q ⟨Z, v, ev, s, hx, q⟩
    cases hx
    exact ⟨_, ev, hl, q_val s q repS⟩
  | _ => exact old h
/-! is: None, and truth values -/
def isXD : D → D → Option R
  | .bl a, .bl b => bl (decide (a = b))
  | d, e => isND d e
def notXD : D → D → Option R
  | .bl a, .bl b => bl (!decide (a = b))
  | d, e => notND d e
theorem op_isXD {X : Cx} : OpR X (compareOp .Is) (rO2 X.K isXD) := by
  refine OpR.split fun d e r h => ?_
  unfold isXD at h
  split at h
  · cases h
    refine OpR.imp op_is_bl ?_
    rintro x y H Q ⟨Z, s, hx, hy, q⟩
    cases hx
    cases hy
    exact ⟨_, _, rfl, rfl, q_val s q repB⟩
  · exact OpR.imp op_isND fun x y H Q ⟨Z, s, hx, hy, q⟩ => ⟨Z, _, _, r, s, hx, hy, h, q⟩
theorem op_notXD {X : Cx} : OpR X (compareOp .IsNot) (rO2 X.K notXD) := by
  refine OpR.split fun d e r h => ?_
  unfold notXD at h
  split at h
  · cases h
    refine OpR.imp op_isnot_bl ?_
    rintro x y H Q ⟨Z, s, hx, hy, q⟩
    cases hx
    cases hy
    exact ⟨_, _, rfl, rfl, q_val s q repB⟩
  · exact OpR.imp op_notND fun x y H Q ⟨Z, s, hx, hy, q⟩ => ⟨Z, _, _, r, s, hx, hy, h, q⟩
@[simp] theorem isXD_bl {a b : Bool} : isXD (.bl a) (.bl b) = some (.val (.bl (decide (a = b)))) := rfl
@[simp] theorem notXD_bl {a b : Bool} : notXD (.bl a) (.bl b) = some (.val (.bl (!decide (a = b)))) := rfl
@[simp] theorem isXD_non {d : D} : isXD d .non = isND d .non := by cases d <;> rfl
@[simp] theorem notXD_non {d : D} : notXD d .non = notND d .non := by cases d <;> rfl
end Spl

set_option maxHeartbeats 2000000
namespace Spl
open PySem PySem.Spec L2
open PyProof.Rows

/-! zip of a tuple and a list (true: a tuple) -/
def ItB (t : Bool) (h : Heap) (c l : Addr) (n : Nat) : Prop := match t with
  | true => h.IsTupleIter c l n
  | false => h.IsListIter c l n
def SqB (t : Bool) (h : Heap) (l : Addr) (vs : Array Value) : Prop := match t with
  | true => h.IsTuple l vs
  | false => h.IsList l vs
theorem ItB.keep {t : Bool} {h h' : Heap} {c l : Addr} {n : Nat} (x : ItB t h c l n) (e : ∀ o, h.get? c = some o → h'.get? c = some o) : ItB t h' c l n := by
  cases t with
  | true => exact Heap.IsTupleIter.at (show h.IsTupleIter c l n from x) e
  | false => exact Heap.IsListIter.at (show h.IsListIter c l n from x) e
theorem SqB.keep {t : Bool} {h h' : Heap} {l : Addr} {vs : Array Value} (x : SqB t h l vs) (e : ∀ o, h.get? l = some o → h'.get? l = some o) : SqB t h' l vs := by
  cases t with
  | true =>
    obtain ⟨o, ho, r⟩ := (show h.IsTuple l vs from x)
    exact (show h'.IsTuple l vs from ⟨o, e _ ho, r⟩)
  | false => exact Heap.IsList.at (show h.IsList l vs from x) e
theorem ItB.obj {t : Bool} {h : Heap} {c l : Addr} {n : Nat} (x : ItB t h c l n) : ∃ o vs, h.get? c = some o ∧ o.data = .fields vs := by
  cases t with
  | true => obtain ⟨o, ho, _, hd⟩ := (show h.IsTupleIter c l n from x); exact ⟨o, _, ho, hd⟩
  | false => obtain ⟨o, ho, _, hd⟩ := (show h.IsListIter c l n from x); exact ⟨o, _, ho, hd⟩
section
variable {prog : Program} {w : World} {A : Around} {E : Value → Shared → Prop} {s : Shared}
theorem ItB.next {t : Bool} {c l : Addr} {n : Nat} {vs : Array Value} {Q : Value → Shared → Prop} (hh : A.handled = none) (hi : ItB t s.heap c l n) (hs : SqB t s.heap l vs)
    (hQ : ∀ x, vs[n]? = some x → ∀ h', ItB t h' c l (n + 1) → Heap.SameBut c s.heap h' → Q x { s with heap := h' })
    (hE : vs[n]? = none → ∀ h' e, Heap.ExtBut c s.heap h' → (∃ o, h'.get? e = some o ∧ o.cls = .type "StopIteration") → E (.ref e) { s with heap := h' }) :
    wpAny (model prog w) A (Builtin.SmallTypes.nextOf (.ref c)) Q E s := by
  cases e : vs[n]? with
  | some x =>
    cases t with
    | true => exact RZ.nextOf_tuple_item hi hs e (hQ x e)
    | false => exact wpAny_nextOf_list_item hi hs e (hQ x e)
  | none =>
    cases t with
    | true => exact RZ.nextOf_tuple_end hh hi hs e (hE e)
    | false => exact wpAny_nextOf_list_end hh hi hs e (hE e)
/-- what stands while such a zip is walked -/
structure ZSt (t u : Bool) (z TI TO c d l m : Addr) (k : Nat) (f0 : Value) (h : Heap) : Prop where
  zz : IsZip h z TI TO f0
  ti : IsPair h TI (.ref c) (.ref d)
  to : ∃ a b, IsPair h TO a b
  i1 : ItB t h c l k
  i2 : ItB u h d m k
theorem zipB_call {t u : Bool} {z TI TO c d l m : Addr} {k : Nat} {xs ys : Array Value} {Q : Value → Shared → Prop} (hh : A.handled = none) (D : ZipApart z TI TO c d l m) (Z : ZSt t u z TI TO c d l m k .none s.heap)
    (hx : SqB t s.heap l xs) (hy : SqB u s.heap m ys)
    (hQ : ∀ x y, xs[k]? = some x → ys[k]? = some y → ∀ h', ZSt t u z TI TO c d l m (k + 1) (rawInt s.heap.objs.size) h' → IsPair h' s.heap.objs.size x y →
      (∀ a o, a ≠ z → a ≠ TO → a ≠ c → a ≠ d → s.heap.get? a = some o → h'.get? a = some o) → Q (.ref s.heap.objs.size) { s with heap := h' })
    (hE : (xs[k]? = none ∨ ys[k]? = none) → ∀ h' e, (∀ a o, a ≠ z → a ≠ TO → a ≠ c → a ≠ d → s.heap.get? a = some o → h'.get? a = some o) → (∃ o, h'.get? e = some o ∧ o.cls = .type "StopIteration") → E (.ref e) { s with heap := h' }) :
    wpAny (model prog w) A (Builtin.«zip.__next__» ⟨[.ref z], []⟩) (fun f s' => ∃ v, f = .done (.ret v) ∧ Q v s') E s := by
  obtain ⟨gz, gt, ⟨a0, b0, go⟩, g1, g2⟩ := Z
  show wpAny _ _ (field (.ref z) 2 >>= _) _ _ _
  refine wpAny_bind <| wpAny_field gz rfl (x := .bool false) rfl ?_
  show wpAny _ _ (field (.ref z) 3 >>= _) _ _ _
  refine wpAny_bind <| wpAny_field gz rfl (x := .ref TI) rfl <| wpAny_bind <| wpAny_seqItems gt rfl ?_
  show wpAny _ _ (Builtin.SmallTypes.ownedTupleIsFree (.ref z) >>= _) _ _ _
  refine wpAny_bind ?_
  unfold Builtin.SmallTypes.ownedTupleIsFree
  refine wpAny_bind <| wpAny_field gz rfl (x := .none) rfl <| wpAny_pure ?_
  simp only [if_true]
  refine wpAny_bind <| wpAny_rule <| wpAny_bind <| wpAny_field gz rfl (x := .ref TO) rfl <| wpAny_bind <| wpAny_setField_rec gz (by simp) fun p1 z1 s1 => ?_
  replace z1 : IsZip p1 z TI TO .ellipsis := z1
  refine wpAny_bind ?_
  simp only [List.zipIdx_cons, List.zipIdx_nil, List.forIn_cons, List.forIn_nil]
  refine wpAny_bind <| wpAny_bind <| wpAny_onRaise ?_
  show wpAny _ _ (Builtin.SmallTypes.nextOf (.ref c) >>= _) _ _ _
  have k1 : ∀ a o, a ≠ z → s.heap.get? a = some o → p1.get? a = some o := fun a o n e => s1.extBut _ _ n e
  refine wpAny_bind <| ItB.next hh (g1.keep fun o => k1 c o D.i1z) (hx.keep fun o => k1 l o D.l1z) (fun x ex p2 j1 s2 => wpAny_pure ?_) (fun ex p2 e s2 he => ?_)
  case refine_2 =>
    obtain ⟨oe, e1, e2⟩ := he
    have z2 : IsZip p2 z TI TO .ellipsis := s2 _ _ D.i1z.symm z1
    have ne : e ≠ z := fun q => by
      subst q
      rw [z2] at e1
      cases e1
      simp at e2
    exact wpAny_setField_rec z2 (by simp) fun p3 _ s3 => hE (.inl ex) p3 e (fun a o n1 n2 n3 n4 q => s3.extBut _ _ n1 (s2 _ _ n3 (k1 a o n1 q))) ⟨oe, s3.extBut _ _ ne e1, e2⟩
  have k2 : ∀ a o, a ≠ z → a ≠ c → s.heap.get? a = some o → p2.get? a = some o := fun a o n n' e => s2.extBut _ _ n' (k1 a o n e)
  have t2 : IsPair p2 TO a0 b0 := k2 _ _ D.TOz D.TOi1 go
  refine wpAny_bind <| wpAny_seqItems t2 rfl <| wpAny_bind <| wpAny_updateSeq_pair t2 fun p3 t3 s3 => ?_
  replace t3 : IsPair p3 TO x b0 := t3
  refine wpAny_bind <| wpAny_letGo <| wpAny_pure <| wpAny_bind <| wpAny_bind <| wpAny_onRaise ?_
  show wpAny _ _ (Builtin.SmallTypes.nextOf (.ref d) >>= _) _ _ _
  have k3 : ∀ a o, a ≠ z → a ≠ c → a ≠ TO → s.heap.get? a = some o → p3.get? a = some o := fun a o n n' n'' e => s3.extBut _ _ n'' (k2 a o n n' e)
  refine wpAny_bind <| ItB.next hh (g2.keep fun o => k3 d o D.i2z D.i12.symm D.TOi2.symm) (hy.keep fun o => k3 m o D.l2z D.l2i1 D.l2TO) (fun y ey p4 j2 s4 => wpAny_pure ?_) (fun ey p4 e s4 he => ?_)
  case refine_2 =>
    obtain ⟨oe, e1, e2⟩ := he
    have z4 : IsZip p4 z TI TO .ellipsis := s4 _ _ D.i2z.symm (s3.extBut _ _ D.TOz.symm (s2.extBut _ _ D.i1z.symm z1))
    have ne : e ≠ z := fun q => by
      subst q
      rw [z4] at e1
      cases e1
      simp at e2
    exact wpAny_setField_rec z4 (by simp) fun p5 _ s5 => hE (.inr ey) p5 e (fun a o n1 n2 n3 n4 q => s5.extBut _ _ n1 (s4 _ _ n4 (k3 a o n1 n3 n2 q))) ⟨oe, s5.extBut _ _ ne e1, e2⟩
  have t4 : IsPair p4 TO x b0 := s4.extBut _ _ D.TOi2 t3
  refine wpAny_bind <| wpAny_seqItems t4 rfl <| wpAny_bind <| wpAny_updateSeq_pair t4 fun p5 t5 s5 => ?_
  replace t5 : IsPair p5 TO x y := t5
  refine wpAny_bind <| wpAny_letGo <| wpAny_pure <| wpAny_pure <| wpAny_bind <| wpAny_seqItems t5 rfl <| wpAny_bind <| wpAny_newTuple ?_
  have size5 : p5.objs.size = s.heap.objs.size := by rw [s5.1, s4.1, s3.1, s2.1, s1.1]
  have k5 : ∀ a o, a ≠ z → a ≠ TO → a ≠ c → a ≠ d → s.heap.get? a = some o → p5.get? a = some o := fun a o n1 n2 n3 n4 q => s5.extBut _ _ n2 (s4.extBut _ _ n4 (k3 a o n1 n3 n2 q))
  have z5 : IsZip p5 z TI TO .ellipsis := s5.extBut _ _ D.TOz.symm (s4.extBut _ _ D.i2z.symm (s3.extBut _ _ D.TOz.symm (s2.extBut _ _ D.i1z.symm z1)))
  have q1 : ItB t p5 c l (k + 1) := j1.keep fun o q => s5.extBut _ _ D.TOi1.symm (s4.extBut _ _ D.i12 (s3.extBut _ _ D.TOi1.symm q))
  have q2 : ItB u p5 d m (k + 1) := j2.keep fun o q => s5.extBut _ _ D.TOi2.symm q
  have ltz : z < p5.objs.size := Heap.lt_size z5
  show wpAny _ _ (Builtin.SmallTypes.ownedTupleHandOut (.ref z) (.ref p5.objs.size) >>= _) _ _ _
  refine wpAny_bind ?_
  unfold Builtin.SmallTypes.ownedTupleHandOut
  have z6 : IsZip (p5.push { cls := .type "tuple", data := .seq #[x, y] }) z TI TO .ellipsis := Heap.get?_push_of_some _ z5
  refine wpAny_bind <| wpAny_setField_rec z6 (by simp) fun p7 z7 s7 => ?_
  replace z7 : IsZip p7 z TI TO (rawInt p5.objs.size) := z7
  refine wpAny_setField_rec z7 (by simp) fun p8 z8 s8 => ?_
  replace z8 : IsZip p8 z TI TO (rawInt p5.objs.size) := z8
  have up : ∀ a o, a ≠ z → p5.get? a = some o → p8.get? a = some o := fun a o n q => s8.extBut _ _ n (s7.extBut _ _ n (Heap.get?_push_of_some _ q))
  have t8 : IsPair p8 p5.objs.size x y := s8.extBut _ _ (Nat.ne_of_gt ltz) (s7.extBut _ _ (Nat.ne_of_gt ltz) (Heap.get?_push_size _ rfl))
  refine wpAny_pure ⟨_, rfl, ?_⟩
  show Q (.ref p5.objs.size) _
  rw [size5] at z8 t8 ⊢
  exact hQ x y ex ey p8 ⟨z8, up _ _ D.TIz (k5 _ _ D.TIz D.TITO D.TIi1 D.TIi2 gt), ⟨x, y, up _ _ D.TOz t5⟩, q1.keep fun o q => up _ o D.i1z q, q2.keep fun o q => up _ o D.i2z q⟩ t8 fun a o n1 n2 n3 n4 q => up a o n1 (k5 a o n1 n2 n3 n4 q)
theorem pyNext_zipB {t u : Bool} {z TI TO c d l m : Addr} {k : Nat} {xs ys : Array Value} {Q : Option Value → Shared → Prop} (hh : A.handled = none) (D : ZipApart z TI TO c d l m) (Z : ZSt t u z TI TO c d l m k .none s.heap)
    (hx : SqB t s.heap l xs) (hy : SqB u s.heap m ys)
    (hQ : ∀ x y, xs[k]? = some x → ys[k]? = some y → ∀ h', ZSt t u z TI TO c d l m (k + 1) (rawInt s.heap.objs.size) h' → IsPair h' s.heap.objs.size x y →
      (∀ a o, a ≠ z → a ≠ TO → a ≠ c → a ≠ d → s.heap.get? a = some o → h'.get? a = some o) → Q (some (.ref s.heap.objs.size)) { s with heap := h' })
    (hE : (xs[k]? = none ∨ ys[k]? = none) → ∀ h', (∀ a o, a ≠ z → a ≠ TO → a ≠ c → a ≠ d → s.heap.get? a = some o → h'.get? a = some o) → Q none { s with heap := h' }) :
    wpAny (model prog w) A (pyNext (.ref z)) Q E s := by
  have tz : s.TypeIs (.ref z) "zip" := ⟨_, Z.zz, rfl⟩
  unfold pyNext
  refine wpAny_bind <| wpAny_attempt <| wpAny_callSpecial?_slot (name := Str.ofString "__next__") tz F.slot_zip_next <| wpAny_call_entry F.slot_zip_next tz F.entry_zip_next
    (zipB_call hh D Z hx hy (fun x y ex ey h' Z' p' k' => wpAny_pure (hQ x y ex ey h' Z' p' k')) fun en h' e k' he => ?_) (F.args_zip_next_1 _)
  obtain ⟨o, ho, hc⟩ := he
  exact wpAny_bind <| wpAny_isInstance (T := "StopIteration") (b := true) ⟨o, ho, hc⟩ isSubtype_stop <| wpAny_pure (hE en h' k')
end
def SqG (t : Bool) (K : PySem.W.Frag) (H : Hp) (a : Addr) (xs : List V) : Prop := match t with
  | true => SqT K H a xs
  | false => SqL K H a xs
theorem SqG.look {X : Cx} {pins : List (Addr × Obj)} {σ : L2.St} {H : Hp} {s : Shared} {t : Bool} {a : Addr} {xs : List V} (I : Inv X pins σ H s) (h : SqG t X.K H a xs) : ∃ us : List Value, Vals xs us ∧ SqB t s.heap a us.toArray ∧ a < s.heap.objs.size := by
  cases t with
  | true =>
    obtain ⟨us, r, p, _⟩ := I.tuple (show SqT X.K H a xs from h)
    obtain ⟨o, ho, _⟩ := id p
    exact ⟨us, r, p, Heap.lt_size ho⟩
  | false =>
    obtain ⟨us, r, p, _⟩ := I.list (show SqL X.K H a xs from h)
    exact ⟨us, r, p.isList, p.lt⟩
theorem SqG.inj {X : Cx} {pins : List (Addr × Obj)} {σ : L2.St} {H : Hp} {s : Shared} {t : Bool} {a : Addr} {xs ys : List V} (I : Inv X pins σ H s) (h : SqG t X.K H a xs) (h2 : SqG t X.K H a ys) : xs = ys := by
  cases t with
  | true => exact I.tuple_inj h h2
  | false => exact I.list_inj h h2
/-- the two as they stand at each turn, the items in new pairs -/
def ItzB (t u : Bool) (K : PySem.W.Frag) (a b : Addr) : It :=
  ⟨fun n H => ∃ (vs us : List V) (x y : V), SqG t K H a vs ∧ SqG u K H b us ∧ vs[n]? = some x ∧ us[n]? = some y,
    fun n H v H' => ∃ T x y, v = .ref T ∧ H T = none ∧ H' = upd H T (.tup [x, y]) ∧ (∀ vs, SqG t K H a vs → vs[n]? = some x) ∧ ∀ us, SqG u K H b us → us[n]? = some y,
    fun n H => ∃ vs us : List V, SqG t K H a vs ∧ SqG u K H b us ∧ (vs.length ≤ n ∨ us.length ≤ n)⟩
theorem turn_zipB {P : Program} {w : World} {K : PySem.W.Frag} {elts : List Expr} {kk : Nat} {tpos : Pos} {t u : Bool} {a b z TI TO c d : Addr} (D : ZipApart z TI TO c d a b) :
    Turn P w K (.Tuple elts kk tpos) (ItzB t u K a b) [z, TI, TO, c, d] z (fun n h => ZSt t u z TI TO c d a b n .none h) where
  mem := by simp
  obj := fun n h st e he => by
    obtain ⟨gz, gt, ⟨x, y, go⟩, g1, g2⟩ := st
    obtain ⟨o1, v1, e1, d1⟩ := g1.obj
    obtain ⟨o2, v2, e2, d2⟩ := g2.obj
    simp only [List.mem_cons, List.not_mem_nil, or_false] at he
    rcases he with rfl | rfl | rfl | rfl | rfl
    · exact ⟨_, gz, fun _ q => nomatch q⟩
    · exact ⟨_, gt, fun _ q => nomatch q⟩
    · exact ⟨_, go, fun _ q => nomatch q⟩
    · exact ⟨o1, e1, fun _ q => by rw [d1] at q; cases q⟩
    · exact ⟨o2, e2, fun _ q => by rw [d2] at q; cases q⟩
  keep := fun n h h' st k => by
    obtain ⟨gz, gt, ⟨x, y, go⟩, g1, g2⟩ := st
    exact ⟨k z (by simp) _ gz, k TI (by simp) _ gt, ⟨x, y, k TO (by simp) _ go⟩, g1.keep fun o q => k c (by simp) o q, g2.keep fun o q => k d (by simp) o q⟩
  item := by
    intro X hP hw hK hc n pins s σ H E I hf st hg
    subst hP hw hK
    obtain ⟨vs, us, x, y, sx, sy, hx, hy⟩ := hg
    obtain ⟨ns, rx, px, _⟩ := SqG.look I sx
    obtain ⟨ms, ry, py, _⟩ := SqG.look I sy
    obtain ⟨x', hx', rx'⟩ := rx.get hx
    obtain ⟨y', hy', ry'⟩ := ry.get hy
    have ltz : z < s.heap.objs.size := Heap.lt_size st.zz
    refine pyNext_zipB (I.ok.hd hc) D st px py (fun x2 y2 ex ey h' Z' pp k' => ?_) (fun en _ _ => ?_)
    case refine_2 =>
      rcases en with q | q
      · rw [show ns.toArray[n]? = some x' by simpa using hx'] at q; cases q
      · rw [show ms.toArray[n]? = some y' by simpa using hy'] at q; cases q
    obtain rfl : x2 = x' := by rw [show ns.toArray[n]? = some x' by simpa using hx'] at ex; cases ex; rfl
    obtain rfl : y2 = y' := by rw [show ms.toArray[n]? = some y' by simpa using hy'] at ey; cases ey; rfl
    refine ⟨_, rfl, wpAny_letOwnedTupleGo_zip (s := { s with heap := h' }) Z'.zz fun h2 z2 sb => ?_⟩
    have tt : h2.get? s.heap.objs.size = some { cls := .type "tuple", data := .seq #[x2, y2] } := (sb.2 _ (Nat.ne_of_gt ltz)).trans pp
    have new : ObjOk X.prog X.w (upd H s.heap.objs.size (.tup [x, y])) h2 s.heap.objs.size (.tup [x, y]) := ⟨by show 2 ≤ sizeLine; decide, [x2, y2], .cons rx' (.cons ry' .nil), ⟨_, tt, rfl, _, rfl⟩⟩
    have I1 : Inv X pins σ (upd H s.heap.objs.size (.tup [x, y])) { s with heap := h2 } := I.turnedNew (t' := s.toks) (ch := [z, TI, TO, c, d]) (fun e o hb q => by
      simp only [List.mem_cons, List.not_mem_nil, or_false, not_or] at hb
      exact (sb.2 e hb.1).trans (k' e o hb.1 hb.2.2.1 hb.2.2.2.1 hb.2.2.2.2 q)) hf (Nat.le_refl _) new
    obtain ⟨_, ut, ⟨ua, ub, uo⟩, u1, u2⟩ := Z'
    refine ⟨.ref s.heap.objs.size, _, I1, rfl, ⟨_, x, y, rfl, I.hok.fresh (Nat.le_refl _), rfl, fun l hl => (SqG.inj I hl sx).symm ▸ hx, fun l hl => (SqG.inj I hl sy).symm ▸ hy⟩, ⟨z2, ?_, ⟨ua, ub, ?_⟩, ?_, ?_⟩, fun e hm => ?_⟩
    · exact (sb.2 _ D.TIz).trans ut
    · exact (sb.2 _ D.TOz).trans uo
    · exact u1.keep fun o q => (sb.2 _ D.i1z).trans q
    · exact u2.keep fun o q => (sb.2 _ D.i2z).trans q
    · obtain ⟨o, ho, _⟩ := (show ∃ o, s.heap.get? e = some o ∧ True from by
        obtain ⟨gz, gt, ⟨x, y, go⟩, g1, g2⟩ := st
        obtain ⟨o1, _, e1, _⟩ := g1.obj
        obtain ⟨o2, _, e2, _⟩ := g2.obj
        have hm' := hm
        simp only [List.mem_cons, List.not_mem_nil, or_false] at hm'
        rcases hm' with rfl | rfl | rfl | rfl | rfl
        · exact ⟨_, gz, trivial⟩
        · exact ⟨_, gt, trivial⟩
        · exact ⟨_, go, trivial⟩
        · exact ⟨_, e1, trivial⟩
        · exact ⟨_, e2, trivial⟩)
      rw [upd_ne (Nat.ne_of_lt (Heap.lt_size ho))]
      exact (hf e hm).1
  done := by
    intro X hP hw hK hc n pins s σ H E I hf st hg
    subst hP hw hK
    obtain ⟨vs, us, sx, sy, hend⟩ := hg
    obtain ⟨ns, rx, px, _⟩ := SqG.look I sx
    obtain ⟨ms, ry, py, _⟩ := SqG.look I sy
    have l1 := rx.length
    have l2 := ry.length
    refine pyNext_zipB (I.ok.hd hc) D st px py (fun x2 y2 ex ey _ _ _ _ => ?_) (fun _ h' k' => ⟨rfl, I.turnedL (t' := s.toks) (ch := [z, TI, TO, c, d]) (fun e o hb q => by
      simp only [List.mem_cons, List.not_mem_nil, or_false, not_or] at hb
      exact k' e o hb.1 hb.2.2.1 hb.2.2.2.1 hb.2.2.2.2 q) hf⟩)
    have a1 : n < ns.length := by
      rcases Nat.lt_or_ge n ns.length with q | q
      · exact q
      · rw [show ns.toArray[n]? = none by simp; exact q] at ex; cases ex
    have a2 : n < ms.length := by
      rcases Nat.lt_or_ge n ms.length with q | q
      · exact q
      · rw [show ms.toArray[n]? = none by simp; exact q] at ey; cases ey
    exfalso
    omega
  self := fun A n s Q E st h => wpAny_pyIter_zip st.zz h
abbrev zo (t : Bool) (l : Addr) : Obj := match t with
  | true => { cls := .type "tuple_iterator", data := .fields #[.ref l, .int 0 0] }
  | false => { cls := .type "list_iterator", data := .fields #[.ref l, .int 0 0] }
abbrev zb2 (t u : Bool) (h : Heap) (l m : Addr) : Heap := (h.push (zo t l)).push (zo u m)
abbrev zb3 (t u : Bool) (h : Heap) (l m : Addr) : Heap := (zb2 t u h l m).push { cls := .type "tuple", data := .seq #[.ref h.objs.size, .ref (h.push (zo t l)).objs.size] }
abbrev zb4 (t u : Bool) (h : Heap) (l m : Addr) : Heap := (zb3 t u h l m).push { cls := .type "tuple", data := .seq #[.none, .none] }
abbrev zb5 (t u : Bool) (h : Heap) (l m : Addr) : Heap := (zb4 t u h l m).push { cls := .type "zip", data := .fields #[.none, .bool false, .bool false, .ref (zb2 t u h l m).objs.size, .ref (zb3 t u h l m).objs.size] }
theorem zip_newB (t u : Bool) (l m : Addr) (xs ys : Array Value) :
    Meets (Builtin.«zip.__new__» ⟨[.type "zip", .ref l, .ref m], []⟩) (fun _ R s => SqB t s.heap l xs ∧ SqB u s.heap m ys ∧ R (.ok (.ret (.ref (zb4 t u s.heap l m).objs.size))) { s with heap := zb5 t u s.heap l m }) :=
  .of_wp fun prog w A R s h => by
    obtain ⟨hp, g, d, tk, os⟩ := s
    obtain ⟨h1, h2, h⟩ := h
    have hsub := sub_zip
    have b2 : SqB u (hp.push (zo t l)) m ys := h2.keep fun o q => Heap.get?_push_of_some _ q
    cases t with
    | true =>
      have a1 : Heap.IsTuple (Shared.heap ⟨hp, g, d, tk, os⟩) l xs := h1
      cases u with
      | true =>
        have a2 : Heap.IsTuple (Shared.heap ⟨hp.push { cls := .type "tuple_iterator", data := .fields #[.ref l, .int 0 0] }, g, d, tk, os⟩) m ys := b2
        wp_walk using wpAny_pyIter_tuple a1, wpAny_pyIter_tuple a2
        exact ⟨_, rfl, h⟩
      | false =>
        have a2 : Heap.IsList (Shared.heap ⟨hp.push { cls := .type "tuple_iterator", data := .fields #[.ref l, .int 0 0] }, g, d, tk, os⟩) m ys := b2
        wp_walk using wpAny_pyIter_tuple a1, wpAny_pyIter_list a2
        exact ⟨_, rfl, h⟩
    | false =>
      have a1 : Heap.IsList (Shared.heap ⟨hp, g, d, tk, os⟩) l xs := h1
      cases u with
      | true =>
        have a2 : Heap.IsTuple (Shared.heap ⟨hp.push { cls := .type "list_iterator", data := .fields #[.ref l, .int 0 0] }, g, d, tk, os⟩) m ys := b2
        wp_walk using wpAny_pyIter_list a1, wpAny_pyIter_tuple a2
        exact ⟨_, rfl, h⟩
      | false =>
        have a2 : Heap.IsList (Shared.heap ⟨hp.push { cls := .type "list_iterator", data := .fields #[.ref l, .int 0 0] }, g, d, tk, os⟩) m ys := b2
        wp_walk using wpAny_pyIter_list a1, wpAny_pyIter_list a2
        exact ⟨_, rfl, h⟩
theorem zo_it {t : Bool} {h : Heap} {c l : Addr} (e : h.get? c = some (zo t l)) : ItB t h c l 0 := by
  cases t with
  | true => exact ⟨_, e, rfl, rfl⟩
  | false => exact ⟨_, e, rfl, rfl⟩
section
variable {prog : Program} {w : World} {A : Around} {E : Value → Shared → Prop} {s : Shared}
theorem call_zipB {t u : Bool} {l m : Addr} {xs ys : Array Value} {Q : Value → Shared → Prop} (hx : SqB t s.heap l xs) (hy : SqB u s.heap m ys)
    (h : ∀ h', ZSt t u (s.heap.objs.size + 4) (s.heap.objs.size + 2) (s.heap.objs.size + 3) s.heap.objs.size (s.heap.objs.size + 1) l m 0 .none h' → (∀ a o, s.heap.get? a = some o → h'.get? a = some o) → Q (.ref (s.heap.objs.size + 4)) { s with heap := h' }) :
    wpAny (model prog w) A (call (.type "zip") [.ref l, .ref m]) Q E s := by
  have f0 : ∀ b : Bool, ∀ n, (zo b n).isFreed = false := fun b n => by cases b <;> rfl
  refine callType_new F.called_zip (by decide) (F.typeCall_zip_2 _ _) (F.newCall_zip_2 _ _) (fun o => F.args_object_init_3 o _ _) F.entry_zip_new (zip_newB t u l m xs ys) ⟨hx, hy, ?_⟩
  have n1 : (s.heap.push (zo t l)).objs.size = s.heap.objs.size + 1 := Heap.size_push ..
  have n2 : (zb2 t u s.heap l m).objs.size = s.heap.objs.size + 2 := by rw [Heap.size_push, n1]
  have n3 : (zb3 t u s.heap l m).objs.size = s.heap.objs.size + 3 := by rw [Heap.size_push, n2]
  have n4 : (zb4 t u s.heap l m).objs.size = s.heap.objs.size + 4 := by rw [Heap.size_push, n3]
  have u1 : ∀ {h : Heap} {o o' : Obj} {a : Addr}, h.get? a = some o → (h.push o').get? a = some o := fun e => Heap.get?_push_of_some _ e
  have e1 : (zb5 t u s.heap l m).get? s.heap.objs.size = some (zo t l) := u1 (u1 (u1 (u1 (Heap.get?_push_size _ (f0 t l)))))
  have e2 : (zb5 t u s.heap l m).get? (s.heap.push (zo t l)).objs.size = some (zo u m) := u1 (u1 (u1 (Heap.get?_push_size _ (f0 u m))))
  have e3 : (zb5 t u s.heap l m).get? (zb2 t u s.heap l m).objs.size = some _ := u1 (u1 (Heap.get?_push_size _ rfl))
  have e4 : (zb5 t u s.heap l m).get? (zb3 t u s.heap l m).objs.size = some _ := u1 (Heap.get?_push_size _ rfl)
  have e5 : (zb5 t u s.heap l m).get? (zb4 t u s.heap l m).objs.size = some _ := Heap.get?_push_size _ rfl
  show _ ∧ _
  rw [n2, n3, n4] at e5
  rw [n1, n2] at e3
  rw [n3] at e4
  rw [n1] at e2
  rw [n4]
  exact ⟨⟨_, e5, rfl⟩, h _ ⟨e5, e3, ⟨_, _, e4⟩, zo_it e1, zo_it e2⟩ fun a o e => u1 (u1 (u1 (u1 (u1 e))))⟩
end
def iZipB (K : PySem.W.Frag) (ta : TA) : TI := fun σ H R => ta σ H fun vs H1 => ∃ t u a b xs ys, vs = [.ref a, .ref b] ∧ SqG t K H1 a xs ∧ SqG u K H1 b ys ∧ R (ItzB t u K a b) H1
theorem pi_zipB {X : Cx} {e e2 : Expr} {ta : TA} {p pos tpos : Pos} {elts : List Expr} {kk : Nat} (hg : Gl X "zip") (hm : X.mg "zip" = none) (ha : PA X [e, e2] ta)
    (hs : starEach [e, e2] X.env = (false, eval e X.env) :: starEach [e2] X.env) (hpl : (backTo pos (starEach [e2] X.env)).any (·.1) = false) :
    PI X (.Tuple elts kk tpos) (.Call (.Name "zip" p) [e, e2] [] pos) (iZipB X.K ta) := by
  constructor
  intro pins s σ H R I h
  refine Call_ (ld_blt I hg hm PyProof.Rows.boot_zip (PyProof.Rows.callWith_type1 (thn (ha.run pos pins s σ H _ I h) fun vs s1 ⟨ws, H1, I1, r1, q1⟩ => ?_) hs hpl))
  obtain ⟨t, u, a, b, xs, ys, ew, sx, sy, q⟩ := q1
  subst ew
  cases r1 with
  | cons ra rr =>
    cases rr with
    | cons rb rr =>
      cases rr
      cases ra
      cases rb
      obtain ⟨ns, rx, px, la⟩ := SqG.look I1 sx
      obtain ⟨ms, ry, py, lb⟩ := SqG.look I1 sy
      refine call_zipB px py fun h' Z k => wpAny_pyIter_zip Z.zz ?_
      have I2 : Inv X pins σ H1 { s1 with heap := h' } := I1.kept (t' := s1.toks) k
      refine ⟨s1.heap.objs.size + 4, [s1.heap.objs.size + 4, s1.heap.objs.size + 2, s1.heap.objs.size + 3, s1.heap.objs.size, s1.heap.objs.size + 1], _, _, H1, rfl, I2, turn_zipB (PySem.W.ktu_apart s1.heap.objs.size a b la lb), Z, fun c hc => ?_, q⟩
      have le : s1.heap.objs.size ≤ c := by
        have e' : c = s1.heap.objs.size + 4 ∨ c = s1.heap.objs.size + 2 ∨ c = s1.heap.objs.size + 3 ∨ c = s1.heap.objs.size ∨ c = s1.heap.objs.size + 1 := by simpa using hc
        rcases e' with z | z | z | z | z <;> rw [z]
        · exact Nat.le_add_right _ _
        · exact Nat.le_add_right _ _
        · exact Nat.le_add_right _ _
        · exact Nat.le_refl _
        · exact Nat.le_add_right _ _
      exact I1.fpOk le (I1.hok.fresh le)
theorem Walk.zipB {K : PySem.W.Frag} {g : Gh} {H : Hp} {t u : Bool} {a b : Addr} {vs us : List V} {xs ys : List D} (h : ∀ g' H', Ext g H g' H' → Sub g'.Z H' → SqG t K H' a vs) (r : RepL K g.Z xs vs) (h2 : ∀ g' H', Ext g H g' H' → Sub g'.Z H' → SqG u K H' b us) (r2 : RepL K g.Z ys us) : Walk K g H (ItzB t u K a b) (zipD xs ys) where
  go := fun n g' H' x s hi => by
    rw [zipD_len, r.length, r2.length] at hi
    exact ⟨vs, us, _, _, h g' H' x s, h2 g' H' x s, List.getElem?_eq_getElem (by omega), List.getElem?_eq_getElem (by omega)⟩
  yld := fun n g' H' y H'' d x s hd ⟨T, y1, y2, ey, hT, eH, q1, q2⟩ => by
    subst ey eH
    obtain ⟨d1, d2, e1, e2, rfl⟩ := zipD_get xs ys n d hd
    obtain ⟨v1, hv1, rv1⟩ := r.get e1
    obtain ⟨v2, hv2, rv2⟩ := r2.get e2
    have w1 := q1 vs (h g' _ x s)
    have w2 := q2 us (h2 g' _ x s)
    rw [hv1] at w1
    rw [hv2] at w2
    cases w1
    cases w2
    exact pair_new s hT (rv1.sub (.of x.z)) (rv2.sub (.of x.z))
  stop := fun g' H' x s => ⟨vs, us, h g' H' x s, h2 g' H' x s, by rw [zipD_len, r.length, r2.length]; omega⟩
theorem RepD.seqB {K : PySem.W.Frag} {Z : Hp} {d : D} {v : V} {xs : List D} (r : RepD K Z d v) (e : d.items = some xs) : ∃ t a vs, v = .ref a ∧ RepL K Z xs vs ∧ ∀ H, Sub Z H → SqG t K H a vs := by
  obtain ⟨a, vs, ev, rl, sq⟩ := r.seq e
  by_cases hd : d.isTup = true
  · rw [if_pos hd] at sq
    exact ⟨true, a, vs, ev, rl, sq⟩
  · rw [if_neg hd] at sq
    exact ⟨false, a, vs, ev, rl, sq⟩
def itZipB (h : Rho → Rs (List D)) (ρ : Rho) : Rs (List D) := (h ρ).bind fun ds ρ1 => match ds with
  | [d, e] => (opt d.items ρ1).bind fun xs ρ2 => (opt e.items ρ2).bind fun ys ρ3 => .ok (zipD xs ys) ρ3
  | _ => .stuck
theorem SI_zipB {X : Cx} {Wx : WX} {io : List Nat} {e e2 : Expr} {h : Rho → Rs (List D)} {p pos tpos : Pos} {elts : List Expr} {kk : Nat} (hg : Gl X "zip") (hm : X.mg "zip" = none) (ha : SL X Wx io [e, e2] h) (hs : starEach [e, e2] X.env = (false, eval e X.env) :: starEach [e2] X.env) (hpl : (backTo pos (starEach [e2] X.env)).any (·.1) = false) :
    SI X Wx io (.Tuple elts kk tpos) (.Call (.Name "zip" p) [e, e2] [] pos) (itZipB h) :=
  PI.imp (pi_zipB hg hm ha hs hpl) fun σ H Q ⟨ρ, g, hio, G, q⟩ => by
    refine tL.bind (c := ⟨X.K, Wx, io⟩) hio (.refl g H) G q fun ds ρ1 g1 vs H1 _ x1 G1 r1 p1 => ?_
    match ds, p1, r1 with
    | [d, f], p1, r1 =>
      unfold RepL at r1
      obtain ⟨v, _, rfl, rd, rt⟩ := r1
      unfold RepL at rt
      obtain ⟨v2, _, rfl, rd2, rt2⟩ := rt
      unfold RepL at rt2
      subst rt2
      have p1 : Post ⟨X.K, Wx, io⟩ g σ H (repWk ⟨X.K, Wx, io⟩) Q ((opt d.items ρ1).bind fun xs ρ2 => (opt f.items ρ2).bind fun ys ρ3 => .ok (zipD xs ys) ρ3) := p1
      obtain ⟨xs, hx, p2⟩ := p1.optb
      obtain ⟨ys, hy, p3⟩ := p2.optb
      obtain ⟨t, a, us, ev, rl, sq⟩ := rd.seqB hx
      obtain ⟨u, b, ws, ev2, rl2, sq2⟩ := rd2.seqB hy
      subst ev ev2
      exact ⟨t, u, a, b, us, ws, rfl, sq _ G1.sub, sq2 _ G1.sub, p3 _ H1 g1 x1 G1 (Walk.zipB (fun g' H' x s => sq H' (.trans x.z s)) rl (fun g' H' x s => sq2 H' (.trans x.z s)) rl2)⟩
    | [], p1, r1 => exact p1.elim
    | [_], p1, r1 => exact p1.elim
    | _ :: _ :: _ :: _, p1, r1 => exact p1.elim
end Spl

set_option maxHeartbeats 2000000
namespace Spl
open PySem PySem.Spec L2
open PyProof.Rows

/-! {k: v for a in xs for b in ys}, no tests -/
abbrev dce (kx vx a xs b ys : Expr) (sc : Scope) (q : Pos) : Expr := .DictComp kx vx [⟨a, xs, [], 0⟩, ⟨b, ys, [], 0⟩] sc q
theorem dturn_out (kx vx a xs b ys : Expr) (sc : Scope) (q : Pos) (it : Value) (D : Addr) (env : Env) :
    compTurn (dce kx vx a xs b ys sc q) 0 it (.ref D) env = (do
      standAt xs.pos
      match ← pyNext it with
      | none => pure (.done .next)
      | some u =>
        letOwnedTupleGo a it u
        assign a env u
        let y ← eval ys env
        standAt ys.pos
        let y ← foldedSetIterable ys env y
        let _ ← runOwn (.compStart (dce kx vx a xs b ys sc q) 1 (← holding [y] (pyIter y)) (.ref D) env) env
        again (.compLoop (dce kx vx a xs b ys sc q) 0 it (.ref D) env)) := by rfl
theorem dturn_in (kx vx a xs b ys : Expr) (sc : Scope) (q : Pos) (it : Value) (D : Addr) (env : Env) :
    compTurn (dce kx vx a xs b ys sc q) 1 it (.ref D) env = (do
      standAt ys.pos
      match ← pyNext it with
      | none => pure (.done .next)
      | some u =>
        letOwnedTupleGo b it u
        assign b env u
        (do
          let k ← eval kx env
          let y ← holding [k] (eval vx env)
          standAt { kx.pos with endLine := vx.pos.endLine, endCol := vx.pos.endCol }
          holding [k, y] (dictSet D k y))
        again (.compLoop (dce kx vx a xs b ys sc q) 1 it (.ref D) env)) := by rfl
section
variable {prog : Program} {w : World} {A : Around} {R : Result → Shared → Prop} {s : Shared} {kx vx a xs b ys : Expr} {sc : Scope} {q : Pos} {it : Value} {D : Addr} {env : Env}
theorem dloop_out (hs : ∀ y, foldedSetIterable ys env y = pure y) (J : Nat → Shared → Prop)
    (go : ∀ n s, J n s → wpAny (model prog w) A (pyNext it) (fun r s1 => match r with
      | none => R (.ok .next) s1
      | some u => wpAny (model prog w) A (letOwnedTupleGo a it u) (fun _ s2 => wpAny (model prog w) A (assign a env u) (fun _ s3 => wpAny (model prog w) A (eval ys env) (fun y s4 => wpAny (model prog w) A (pyIter y) (fun it1 s5 =>
          codeAny (model prog w) A (.compStart (dce kx vx a xs b ys sc q) 1 it1 (.ref D) env) (fun r s6 => match r with
            | .ok _ => ∃ m, m < n ∧ J m s6
            | .error _ => False) s5) (notedBy (model prog w) A env fun e s' => R (.error e) s') s4) (notedBy (model prog w) A env fun e s' => R (.error e) s') s3) (notedBy (model prog w) A env fun e s' => R (.error e) s') s2) (notedBy (model prog w) A env fun e s' => R (.error e) s') s1) (notedBy (model prog w) A env fun e s' => R (.error e) s') s)
    (n : Nat) (h : J n s) : codeAny (model prog w) A (.compLoop (dce kx vx a xs b ys sc q) 0 it (.ref D) env) R s := by
  refine codeAny_loop rfl J (fun n s hJ => ?_) n h
  show wpAny _ A ((compTurn (dce kx vx a xs b ys sc q) 0 it (.ref D) env).onRaise (fun x => do noteFrame x env; theTreesLotGoes x)) _ _ s
  refine wpAny_noted ?_
  rw [dturn_out]
  refine wpAny_bind <| wpAny_standAt <| wpAny_bind <| wpAny_mono (go n s hJ) (fun r s1 h1 => ?_) fun _ _ z => z
  cases r with
  | none => exact wpAny_pure h1
  | some u =>
    refine wpAny_bind <| wpAny_mono h1 (fun _ s2 h2 => wpAny_bind <| wpAny_mono h2 (fun _ s3 h3 => wpAny_bind <| wpAny_mono h3 (fun y s4 h4 => ?_) fun _ _ z => z) fun _ _ z => z) fun _ _ z => z
    refine wpAny_bind <| wpAny_standAt <| wpAny_bind <| wpAny_of_eq (hs y) <| wpAny_bind <| wpAny_holding <| wpAny_mono h4 (fun it1 s5 h5 => ?_) fun _ _ z => z
    refine wpAny_bind (wpAny_runOwn ?_)
    rw [Around.mark_none]
    refine codeAny_mono h5 fun r s6 hr => ?_
    cases r with
    | ok f => exact wpAny_pure ⟨rfl, hr⟩
    | error e => exact hr.elim
theorem dloop_in (J : Nat → Shared → Prop)
    (go : ∀ n s, J n s → wpAny (model prog w) A (pyNext it) (fun r s1 => match r with
      | none => R (.ok .next) s1
      | some u => wpAny (model prog w) A (letOwnedTupleGo b it u) (fun _ s2 => wpAny (model prog w) A (assign b env u) (fun _ s3 => wpAny (model prog w) A (eval kx env) (fun k s4 => wpAny (model prog w) A (eval vx env) (fun y s5 =>
          wpAny (model prog w) A (dictSet D k y) (fun _ s6 => ∃ m, m < n ∧ J m s6) (notedBy (model prog w) A env fun e s' => R (.error e) s') s5) (notedBy (model prog w) A env fun e s' => R (.error e) s') s4) (notedBy (model prog w) A env fun e s' => R (.error e) s') s3) (notedBy (model prog w) A env fun e s' => R (.error e) s') s2) (notedBy (model prog w) A env fun e s' => R (.error e) s') s1) (notedBy (model prog w) A env fun e s' => R (.error e) s') s)
    (n : Nat) (h : J n s) : codeAny (model prog w) A (.compLoop (dce kx vx a xs b ys sc q) 1 it (.ref D) env) R s := by
  refine codeAny_loop rfl J (fun n s hJ => ?_) n h
  show wpAny _ A ((compTurn (dce kx vx a xs b ys sc q) 1 it (.ref D) env).onRaise (fun x => do noteFrame x env; theTreesLotGoes x)) _ _ s
  refine wpAny_noted ?_
  rw [dturn_in]
  refine wpAny_bind <| wpAny_standAt <| wpAny_bind <| wpAny_mono (go n s hJ) (fun r s1 h1 => ?_) fun _ _ z => z
  cases r with
  | none => exact wpAny_pure h1
  | some u =>
    refine wpAny_bind <| wpAny_mono h1 (fun _ s2 h2 => wpAny_bind <| wpAny_mono h2 (fun _ s3 h3 => wpAny_bind <| wpAny_bind <| wpAny_mono h3 (fun k s4 h4 => ?_) fun _ _ z => z) fun _ _ z => z) fun _ _ z => z
    exact wpAny_bind <| wpAny_holding <| wpAny_mono h4 (fun y s5 h5 => wpAny_bind <| wpAny_standAt <| wpAny_holding <| wpAny_mono h5 (fun _ s6 h6 => wpAny_pure ⟨rfl, h6⟩) fun _ _ z => z) fun _ _ z => z
theorem dstart1 (h0 : codeAny (model prog w) A (.compLoop (dce kx vx a xs b ys sc q) 1 it (.ref D) env) R s)
    (h : wpAny (model prog w) A (pyIter it) (fun it' s' => codeAny (model prog w) A (.compLoop (dce kx vx a xs b ys sc q) 1 it' (.ref D) env) R s') (notedBy (model prog w) A env fun x s' => R (.error x) s') s) :
    codeAny (model prog w) A (.compStart (dce kx vx a xs b ys sc q) 1 it (.ref D) env) R s := by
  refine codeAny_of_tree ?_
  show wpAny _ _ ((compStart (dce kx vx a xs b ys sc q) 1 it (.ref D) env).onRaise (fun x => do noteFrame x env; standAt theWindowsPlace)) _ _ s
  refine wpAny_notedAt ?_
  unfold compStart
  show wpAny _ _ (ask >>= _) _ _ s
  refine wpAny_bind (wpAny_askSetting (wpAny_ite ?_))
  split
  · first
      | exact wpAny_bind (wpAny_pure (wpAny_pure ⟨rfl, h0⟩))
      | exact wpAny_pure ⟨rfl, h0⟩
  · refine wpAny_bind (wpAny_rule ?_)
    show wpAny _ _ (standAt ys.pos >>= _) _ _ s
    exact wpAny_bind (wpAny_standAt (wpAny_bind (wpAny_mono h (fun it' s' h' => wpAny_pure ⟨rfl, h'⟩) fun _ _ z => z)))
end
section
variable {X : Cx}
/-- what such a comprehension asks: behind the first store the second source's own walk, from whose end N is reached -/
def tDc2 (wi : TI) (g : TG) (wi' : TI) (g' : TG) (tk tv : TE) (vs vs' : List Nat) : TE := fun σ H Q => wi σ H fun J H1 => ∀ D, H1 D = none → ∃ W : Nat → Nat → Hp → Prop, (∃ m, W 0 m (upd H1 D (.dK []))) ∧ ∀ i m H, W i m H →
  (J.stop i H ∧ Q (.ref D) H) ∨ (J.go i H ∧ ∃ N : Hp → Prop, (∀ H', N H' → ∃ m', m' < m ∧ W (i + 1) m' H') ∧ ∀ x H', J.yld i H x H' → g x (wipe σ vs) H' fun τ H2 => wipe τ vs = wipe σ vs ∧
    wi' τ H2 fun J' H4 => ∃ W' : Nat → Nat → Hp → Prop, (∃ m, W' 0 m H4) ∧ ∀ j k H, W' j k H →
      (J'.stop j H ∧ N H) ∨ (J'.go j H ∧ ∃ N' : Hp → Prop, (∀ H', N' H' → ∃ k', k' < k ∧ W' (j + 1) k' H') ∧ ∀ x H', J'.yld j H x H' → g' x (wipe τ vs') H' fun υ H5 => wipe υ vs' = wipe τ vs' ∧
        tk υ H5 fun y H6 => tv υ H6 fun z H7 => ∃ kvs k, y = kV k ∧ H7 D = some (.dK kvs) ∧ kvs.length < sizeLine ∧ N' (upd H7 D (.dK (putK kvs k z)))))
theorem dc2_core {pins : List (Addr × Obj)} {s : Shared} {σ : L2.St} {H : Hp} {Q : VK} {kx vx a xs b ys : Expr} {sc : Scope} {own : List (Str × Nat)} {vs' : List Nat} {q q' : Pos} {wi wi' : TI} {g g' : TG} {tk tv : TE} {use : Option (Value → Sem Unit)} {Qf : Value → Shared → Prop}
    (hc : X.calm = true) (hN : X.N.Nodup) (I : Inv X pins σ H s) (hi : PI X a xs wi) (ok : BlkOk X.N X.env.scope sc own) (hv : ∀ i ∈ vs', i ∈ own.map (·.2))
    (hg : ∀ (s : Shared) (H : Hp) (C : Addr) (cl : List (Str × Addr)) (fp : List Addr), PG (X.blk s H sc (compEnvC sc cl C X.env) fp) a g)
    (hi' : ∀ (s : Shared) (H : Hp) (C : Addr) (cl : List (Str × Addr)) (fp : List Addr), PI (X.blk s H sc (compEnvC sc cl C X.env) fp) b ys wi')
    (hg' : ∀ (s : Shared) (H : Hp) (C : Addr) (cl : List (Str × Addr)) (fp : List Addr), PG (X.blk s H sc (compEnvC sc cl C X.env) fp) b g')
    (hk : ∀ (s : Shared) (H : Hp) (C : Addr) (cl : List (Str × Addr)) (fp : List Addr), PE (X.blk s H sc (compEnvC sc cl C X.env) fp) kx tk)
    (hx : ∀ (s : Shared) (H : Hp) (C : Addr) (cl : List (Str × Addr)) (fp : List Addr), PE (X.blk s H sc (compEnvC sc cl C X.env) fp) vx tv)
    (hs : ∀ x, foldedSetIterable xs X.env x = pure x) (hs' : ∀ env x, foldedSetIterable ys env x = pure x)
    (h : tDc2 wi g wi' g' tk tv (own.map (·.2)) vs' σ H Q)
    (back : ∀ D C s' m H', Inv X pins σ H' s' → Q (.ref D) H' → s'.heap.Ns C m → FpOk X pins H' C → compPost (model X.prog X.w) X.A X.xe use Qf (.ref D) C (.ok .next) s') :
    wpAny (model X.prog X.w) X.A (comprehension (dce kx vx a xs b ys sc q) sc X.env q' newDict false (eval xs X.env) use) Qf X.xe s := by
  have clo : ∀ y ∈ sc.names, y.2 = .free → ∃ c, X.env.cells.lookup y.1 = some c := fun y hy e => (ok.free y hy e).elim (fun k => I.ok.has _ (.inl k)) fun k => I.ok.has _ (.inr k)
  refine wpAny_comprehension_free (use := use) rfl hs (closure_ok clo) ok.kind (fun y hy e => by rw [ok.uniq y hy, e]) (thn (hi.run pins s σ H _ I h) fun _ s1 h1 => thn h1 fun _ s2 ⟨it, fp, tn, J, H2, e, I2, T, st2, f2, w2⟩ => ?_)
  subst e
  refine wpAny_newObj_type (newEnv_comp ?_)
  generalize eD : s2.heap.objs.size = D
  obtain ⟨W, ⟨m0, w0⟩, turn⟩ := w2 D (I2.hok.fresh (Nat.le_of_eq eD))
  generalize e3 : ({ s2 with heap := s2.heap.push { cls := .type "dict", data := .dict #[] } } : Shared) = s3
  have g3 : s3.heap = s2.heap.push { cls := .type "dict", data := .dict #[] } := by rw [← e3]
  have I3 : Inv X pins σ (upd H2 D (.dK [])) s3 := by
    rw [← e3]
    refine I2.laid (t' := s2.toks) (fun c o e => Heap.get?_push_of_some _ e) (Nat.le_of_eq eD) ?_
    rw [← eD]
    exact dk_empty s2.heap I2.big
  have f3 : ∀ c ∈ fp, FpOk X pins (upd H2 D (.dK [])) c ∧ c < s3.heap.objs.size := fun c hcm => by
    obtain ⟨o, eo, _⟩ := T.obj _ _ st2 c hcm
    have lt := Heap.lt_size eo
    refine ⟨⟨?_, (f2 c hcm).2⟩, by rw [g3, Heap.size_push]; exact Nat.lt_succ_of_lt lt⟩
    rw [upd_ne (by rw [← eD]; exact Nat.ne_of_lt lt)]
    exact (f2 c hcm).1
  have st3 : tn 0 s3.heap := T.keep _ _ _ st2 fun c _ o e => by rw [g3]; exact Heap.get?_push_of_some _ e
  have I4 := block_start I3 ok hN f3
  have pg := hg s3 (upd H2 D (.dK [])) s3.heap.objs.size (cellsFrom (s3.heap.objs.size + 1) sc.names (cloFrom X.env.cells sc.names [])) fp
  have pi' := hi' s3 (upd H2 D (.dK [])) s3.heap.objs.size (cellsFrom (s3.heap.objs.size + 1) sc.names (cloFrom X.env.cells sc.names [])) fp
  have pg' := hg' s3 (upd H2 D (.dK [])) s3.heap.objs.size (cellsFrom (s3.heap.objs.size + 1) sc.names (cloFrom X.env.cells sc.names [])) fp
  have pk := hk s3 (upd H2 D (.dK [])) s3.heap.objs.size (cellsFrom (s3.heap.objs.size + 1) sc.names (cloFrom X.env.cells sc.names [])) fp
  have px := hx s3 (upd H2 D (.dK [])) s3.heap.objs.size (cellsFrom (s3.heap.objs.size + 1) sc.names (cloFrom X.env.cells sc.names [])) fp
  show codeAny _ _ (.compStart (dce kx vx a xs b ys sc q) 0 (.ref it) (.ref D) (compEnvC sc (cellsFrom (s3.heap.objs.size + 1) sc.names (cloFrom X.env.cells sc.names [])) s3.heap.objs.size X.env)) (compPost (model X.prog X.w) X.A X.xe use Qf (.ref D) s3.heap.objs.size) { s3 with heap := pushCells (s3.heap.push { cls := .type "dict", data := .dict #[] }) sc.names }
  have nfp : ∀ c ∈ fp, (upd H2 D (.dK [])) c = none := fun c hcm => (f3 c hcm).1.1
  generalize ee : compEnvC sc (cellsFrom (s3.heap.objs.size + 1) sc.names (cloFrom X.env.cells sc.names [])) s3.heap.objs.size X.env = ce at I4 pg pi' pg' pk px ⊢
  have eL : ce.locals = s3.heap.objs.size := by subst ee; rfl
  generalize eH : upd H2 D (.dK []) = H3 at I3 I4 pg pi' pg' pk px w0 nfp f3
  generalize e4 : ({ s3 with heap := pushCells (s3.heap.push { cls := .type "dict", data := .dict #[] }) sc.names } : Shared) = s4 at I4 ⊢
  have st4 : tn 0 s4.heap := T.keep _ _ _ st3 fun c _ o e => by rw [← e4]; exact pushCells_keeps _ _ _ _ (Heap.get?_push_of_some _ e)
  have stat : ∀ {τ : L2.St} {H' : Hp} {s' : Shared}, Inv (X.blk s3 H3 sc ce fp) [] τ H' s' → (∀ c ∈ fp, H' c = none) → ∀ c ∈ fp, FpOk (X.blk s3 H3 sc ce fp) [] H' c := fun {τ H' s'} I' hn c hcm =>
    ⟨hn c hcm, (I'.ok.exf c hcm).1, I'.ok.exfs c hcm, .inl hcm, fun x d e => (I'.ok.exf c hcm).2 x d e, fun p hp => absurd (show p ∈ ([] : List (Addr × Obj)) ++ [] from hp) (by simp)⟩
  have loop : codeAny (model X.prog X.w) X.A (.compLoop (dce kx vx a xs b ys sc q) 0 (.ref it) (.ref D) ce) (compPost (model X.prog X.w) X.A X.xe use Qf (.ref D) s3.heap.objs.size) s4 := by
    refine dloop_out (hs' ce) (fun n s' => ∃ i H', Inv (X.blk s3 H3 sc ce fp) [] (wipe σ (own.map (·.2))) H' s' ∧ tn i s'.heap ∧ (∀ c ∈ fp, H' c = none) ∧ W i n H') ?_ m0 ⟨0, H3, I4, st4, nfp, w0⟩
    rintro n s5 ⟨i, H5, I5, st5, n5, w5⟩
    rcases turn i n H5 w5 with ⟨stop, qq⟩ | ⟨go, N, hNn, step⟩
    · refine thnF (T.done (X.blk s3 H3 sc ce fp) rfl rfl rfl hc i [] s5 _ H5 (fun _ _ => False) I5 (stat I5 n5) st5 stop) fun r s6 ⟨hr, I6⟩ => ?_
      subst hr
      have I7 : Inv X pins σ H5 s6 := I3.call' (ch := fp) I6.os I6.base I6.hok I6.bare fun c hcm => ⟨(f3 c hcm).1.2.2.2.1, (f3 c hcm).1.2.1, (f3 c hcm).1.2.2.2.2.1, (f3 c hcm).1.2.2.2.2.2⟩
      have nC : H5 s3.heap.objs.size = none := by rw [← eL]; exact I6.free
      obtain ⟨m, hn, _⟩ := I6.loc
      have hn : s6.heap.Ns s3.heap.objs.size m := by rw [← eL]; exact hn
      exact back D s3.heap.objs.size s6 m H5 I7 qq hn (I3.fpOk (Nat.le_refl _) nC)
    · refine thnF (T.item (X.blk s3 H3 sc ce fp) rfl rfl rfl hc i [] s5 _ H5 (fun _ _ => False) I5 (stat I5 n5) st5 go) fun r s6 ⟨u, hr, h6⟩ => ?_
      subst hr
      refine thnF h6 fun _ s7 ⟨x, H7, I7, r7, y7, st7, n7⟩ => ?_
      refine thnF (pg.run _ s7 _ H7 x u _ (I7.pinned (stat I7 n7) (T.obj _ _ st7)) r7 (step x H7 y7)) fun _ s8 ⟨τ, H8, I8, hw, q8⟩ => ?_
      have knows : ∀ (j : Nat) v, (wipe σ (own.map (·.2)))[j]? = some (some v) → (wipe τ vs')[j]? = some (some v) := fun j v e => by
        rw [← hw] at e
        obtain ⟨a1, a2⟩ := wipe_some e
        rw [wipe_out fun z => a2 (hv j z)]
        exact a1
      have ends : ∀ {s' : Shared} {H' : Hp}, Inv (X.blk s3 H3 sc ce fp) ([] ++ pinsAt fp s7.heap) (wipe τ vs') H' s' → N H' → ∃ m, m < n ∧ ∃ i H', Inv (X.blk s3 H3 sc ce fp) [] (wipe σ (own.map (·.2))) H' s' ∧ tn i s'.heap ∧ (∀ c ∈ fp, H' c = none) ∧ W i m H' := fun {s' H'} I' nx => by
        obtain ⟨m', lt, w'⟩ := hNn H' nx
        have pin : ∀ c ∈ fp, ∀ o, s7.heap.get? c = some o → s'.heap.get? c = some o ∧ H' c = none := fun c hcm o e =>
          let z := I'.pin (c, o) (List.mem_append_right _ (List.mem_append_right _ (mem_pinsAt hcm e)))
          ⟨z.1, z.2.1⟩
        refine ⟨m', lt, i + 1, H', (I'.unpinned (pins := [])).weak (by rw [← hw, wipe_length, wipe_length]) knows, T.keep _ _ _ st7 fun c hcm o e => (pin c hcm o e).1, fun c hcm => ?_, w'⟩
        obtain ⟨o, e, _⟩ := T.obj _ _ st7 c hcm
        exact (pin c hcm o e).2
      refine thnF (pi'.run _ s8 τ H8 _ I8 q8) fun _ s10 h10 => thnF h10 fun _ s11 ⟨it', fp', tn', J', H11, e11, I11, T', st11, f11, W', ⟨m1, w1⟩, turn'⟩ => ?_
      subst e11
      have stat' : ∀ {H' : Hp}, (∀ c ∈ fp', H' c = none) → ∀ c ∈ fp', FpOk (X.blk s3 H3 sc ce fp) ([] ++ pinsAt fp s7.heap) H' c := fun hn c hcm => ⟨hn c hcm, (f11 c hcm).2⟩
      have inner : codeAny (model X.prog X.w) X.A (.compLoop (dce kx vx a xs b ys sc q) 1 (.ref it') (.ref D) ce)
          (fun r s' => match r with
            | .ok _ => ∃ m, m < n ∧ ∃ i H', Inv (X.blk s3 H3 sc ce fp) [] (wipe σ (own.map (·.2))) H' s' ∧ tn i s'.heap ∧ (∀ c ∈ fp, H' c = none) ∧ W i m H'
            | .error _ => False) s11 := by
        refine dloop_in (fun k s' => ∃ j H', Inv (X.blk s3 H3 sc ce fp) ([] ++ pinsAt fp s7.heap) (wipe τ vs') H' s' ∧ tn' j s'.heap ∧ (∀ c ∈ fp', H' c = none) ∧ W' j k H') ?_ m1 ⟨0, H11, I11.weak (wipe_length _ _) (fun j v e => (wipe_some e).1), st11, fun c hcm => (f11 c hcm).1, w1⟩
        rintro k s12 ⟨j, H12, I12, st12, n12, w12⟩
        rcases turn' j k H12 w12 with ⟨stop', nx'⟩ | ⟨go', N', hN', step'⟩
        · refine thnF (T'.done (X.blk s3 H3 sc ce fp) rfl rfl rfl hc j _ s12 (wipe τ vs') H12 (fun _ _ => False) I12 (stat' n12) st12 stop') fun r s13 ⟨hr, I13⟩ => ?_
          subst hr
          exact ends I13 nx'
        · refine thnF (T'.item (X.blk s3 H3 sc ce fp) rfl rfl rfl hc j _ s12 (wipe τ vs') H12 (fun _ _ => False) I12 (stat' n12) st12 go') fun r s13 ⟨u', hr, h13⟩ => ?_
          subst hr
          refine thnF h13 fun _ s14 ⟨x', H14, I14, r14, y14, st14, n14⟩ => ?_
          refine thnF (pg'.run _ s14 (wipe τ vs') H14 x' u' _ (I14.pinned (stat' n14) (T'.obj _ _ st14)) r14 (step' x' H14 y14)) fun _ s15 ⟨υ, H15, I15, hw', q15⟩ => ?_
          have ends' : ∀ {s' : Shared} {H' : Hp}, Inv (X.blk s3 H3 sc ce fp) (([] ++ pinsAt fp s7.heap) ++ pinsAt fp' s14.heap) υ H' s' → N' H' → ∃ m, m < k ∧ ∃ j H', Inv (X.blk s3 H3 sc ce fp) ([] ++ pinsAt fp s7.heap) (wipe τ vs') H' s' ∧ tn' j s'.heap ∧ (∀ c ∈ fp', H' c = none) ∧ W' j m H' := fun {s' H'} I' nx => by
            obtain ⟨m', lt, w'⟩ := hN' H' nx
            have pin : ∀ c ∈ fp', ∀ o, s14.heap.get? c = some o → s'.heap.get? c = some o ∧ H' c = none := fun c hcm o e =>
              let z := I'.pin (c, o) (List.mem_append_right _ (List.mem_append_right _ (mem_pinsAt hcm e)))
              ⟨z.1, z.2.1⟩
            refine ⟨m', lt, j + 1, H', I'.unpinned.weak (by rw [← hw', wipe_length]) (fun j v e => by rw [← hw'] at e; exact (wipe_some e).1), T'.keep _ _ _ st14 fun c hcm o e => (pin c hcm o e).1, fun c hcm => ?_, w'⟩
            obtain ⟨o, e, _⟩ := T'.obj _ _ st14 c hcm
            exact (pin c hcm o e).2
          refine thnF (pk.run _ s15 υ H15 _ I15 q15) fun zk s16 ⟨yk, H16, I16, r16, q16⟩ => ?_
          refine thnF (px.run _ s16 υ H16 _ I16 q16) fun zv s17 ⟨yv, H17, I17, r17, kvs, kk, ek, hD, hz, nx⟩ => ?_
          subst ek
          exact d_dictSet (X := X.blk s3 H3 sc ce fp) I17 hD hz r16 r17 fun s18 I18 => ends' I18 nx
      exact dstart1 inner (T'.self X.A 0 _ _ _ st11 inner)
  exact codeAny_compStart_dict loop (T.self X.A 0 _ _ _ st4 loop)
variable {kx vx a xs b ys : Expr} {sc : Scope} {own : List (Str × Nat)} {vs' : List Nat} {q : Pos} {wi wi' : TI} {g g' : TG} {tk tv : TE}
theorem pe_dc2 (hc : X.calm = true) (hN : X.N.Nodup) (hi : PI X a xs wi) (ok : BlkOk X.N X.env.scope sc own) (hv : ∀ i ∈ vs', i ∈ own.map (·.2))
    (hg : ∀ (s : Shared) (H : Hp) (C : Addr) (cl : List (Str × Addr)) (fp : List Addr), PG (X.blk s H sc (compEnvC sc cl C X.env) fp) a g)
    (hi' : ∀ (s : Shared) (H : Hp) (C : Addr) (cl : List (Str × Addr)) (fp : List Addr), PI (X.blk s H sc (compEnvC sc cl C X.env) fp) b ys wi')
    (hg' : ∀ (s : Shared) (H : Hp) (C : Addr) (cl : List (Str × Addr)) (fp : List Addr), PG (X.blk s H sc (compEnvC sc cl C X.env) fp) b g')
    (hk : ∀ (s : Shared) (H : Hp) (C : Addr) (cl : List (Str × Addr)) (fp : List Addr), PE (X.blk s H sc (compEnvC sc cl C X.env) fp) kx tk)
    (hx : ∀ (s : Shared) (H : Hp) (C : Addr) (cl : List (Str × Addr)) (fp : List Addr), PE (X.blk s H sc (compEnvC sc cl C X.env) fp) vx tv)
    (hs : ∀ x, foldedSetIterable xs X.env x = pure x) (hs' : ∀ env x, foldedSetIterable ys env x = pure x) : PE X (dce kx vx a xs b ys sc q) (tDc2 wi g wi' g' tk tv (own.map (·.2)) vs') := by
  constructor
  intro pins s σ H Q I h
  rw [arm_eval_DictComp]
  refine dc2_core hc hN I hi ok hv hg hi' hg' hk hx hs hs' h fun D C s' m H' I' z hn ⟨f0, f1, f2, f3, f4, f5⟩ => ⟨m, hn, fun h2 sb => ?_⟩
  exact ⟨.ref D, H', I'.turned (t' := s'.toks) (fun c o ne e => (sb.2 c ne).trans e) f0 f1 f3 f4 f5, rfl, z⟩
theorem ps_setDc2 {i : Nat} {y : Str} {py spos : Pos} (hc : X.calm = true) (hN : X.N.Nodup) (hy : X.N[i]? = some y) (hyl : X.env.scope.names.lookup y = some .local) (hsw : swapsWith (dce kx vx a xs b ys sc q) (some (.Name y py)) spos.line X.env = pure true)
    (hi : PI X a xs wi) (ok : BlkOk X.N X.env.scope sc own) (hv : ∀ i ∈ vs', i ∈ own.map (·.2))
    (hg : ∀ (s : Shared) (H : Hp) (C : Addr) (cl : List (Str × Addr)) (fp : List Addr), PG (X.blk s H sc (compEnvC sc cl C X.env) fp) a g)
    (hi' : ∀ (s : Shared) (H : Hp) (C : Addr) (cl : List (Str × Addr)) (fp : List Addr), PI (X.blk s H sc (compEnvC sc cl C X.env) fp) b ys wi')
    (hg' : ∀ (s : Shared) (H : Hp) (C : Addr) (cl : List (Str × Addr)) (fp : List Addr), PG (X.blk s H sc (compEnvC sc cl C X.env) fp) b g')
    (hk : ∀ (s : Shared) (H : Hp) (C : Addr) (cl : List (Str × Addr)) (fp : List Addr), PE (X.blk s H sc (compEnvC sc cl C X.env) fp) kx tk)
    (hx : ∀ (s : Shared) (H : Hp) (C : Addr) (cl : List (Str × Addr)) (fp : List Addr), PE (X.blk s H sc (compEnvC sc cl C X.env) fp) vx tv)
    (hs : ∀ x, foldedSetIterable xs X.env x = pure x) (hs' : ∀ env x, foldedSetIterable ys env x = pure x) : PS X (.Assign [.Name y py] (dce kx vx a xs b ys sc q) spos) (tAsg (tDc2 wi g wi' g' tk tv (own.map (·.2)) vs') (gName i)) := by
  constructor
  intro pins s σ H D I h
  rw [exec_Assign_Name_used _ _ _ _ hsw]
  refine wpAny_bind (wpAny_standAt (wpAny_bind ?_))
  show wpAny _ X.A (do let _ ← comprehension (dce kx vx a xs b ys sc q) sc X.env (firstIterPos [⟨a, xs, [], 0⟩, ⟨b, ys, [], 0⟩] q) newDict false (eval xs X.env) (some (assign (.Name y py) X.env))) _ _ s
  have h : tDc2 wi g wi' g' tk tv (own.map (·.2)) vs' σ H (fun x H1 => gName i x σ H1 D.nx) := h
  refine wpAny_bind (thn (dc2_core (Qf := fun _ s' => SP X pins D .next s') hc hN I hi ok hv hg hi' hg' hk hx hs hs' h fun L C s' m H' I' z hn ⟨f0, f1, f2, f3, f4, f5⟩ => ?_) fun _ s' z => wpAny_pure (wpAny_pure z))
  show wpAny _ _ (assign (.Name y py) X.env (.ref L)) _ _ _
  refine wpAny_assign_Name (store_ok2 (v := V.ref L) I' hN hy (.inl hyl) rfl (fun s2 I2 ⟨c, sb, hcc⟩ => ?_) (.inr hyl))
  have ne : C ≠ c := hcc.elim (fun e => by rw [e]; exact f1) fun e e2 => f4 y c e e2.symm
  exact ⟨m, hn.sameBut sb ne, fun h3 sb3 => ⟨_, H', I2.turned (t' := s2.toks) (fun c' o nc e => (sb3.2 c' nc).trans e) f0 f1 f3 f4 f5, z⟩⟩
end
end Spl

set_option maxHeartbeats 2000000
namespace Spl
open PySem PySem.Spec L2
open PyProof.Rows

/-! dict comprehensions of two sources -/
abbrev Acc := List KK × List D
/-- the dict that is made: nobody owns it yet -/
structure LD (K : PySem.W.Frag) (g : Gh) (H : Hp) (L : Addr) (acc : Acc) : Prop where
  rep : ∃ (kk : List Key) (vs : List V), acc.1 = kk.map Sum.inl ∧ kk.length = vs.length ∧ kk.Nodup ∧ H L = some (.dK (kk.zip vs)) ∧ RepL K g.Z acc.2 vs
  nz : g.Z L = none
  no : ∀ i, g.own i ≠ some L
theorem LD.ext {K : PySem.W.Frag} {g g' : Gh} {H H' : Hp} {L : Addr} {acc : Acc} (h : LD K g H L acc) (x : Ext g H g' H') : LD K g' H' L acc := by
  obtain ⟨kk, vs, e1, e2, e3, e4, r⟩ := h.rep
  refine ⟨⟨kk, vs, e1, e2, e3, x.fr _ _ e4 h.no, r.sub (.of x.z)⟩, ?_, fun i e => ?_⟩
  · cases q : g'.Z L with
    | none => rfl
    | some o =>
      rcases x.nw L (by rw [q]; simp) with z | z | ⟨i, z⟩
      · exact absurd h.nz z
      · rw [e4] at z; cases z
      · exact absurd z (h.no i)
  · rcases x.ow i L e with ⟨j, z⟩ | z
    · exact h.no j z
    · rw [e4] at z; cases z
theorem Rel.updL {K : PySem.W.Frag} {g : Gh} {ρ : Rho} {σ : L2.St} {H : Hp} {L : Addr} {o : HO} (nz : g.Z L = none) (no : ∀ i, g.own i ≠ some L) (G : Rel K g ρ σ H) : Rel K g ρ σ (upd H L o) := by
  refine ⟨G.len, fun b u e => ?_, fun i w e => ?_, G.emp, G.nz, G.inj⟩
  · have hb : b ≠ L := fun z => by rw [z, nz] at e; cases e
    rw [upd_ne hb]; exact G.sub b u e
  · obtain ⟨v, hv, r⟩ := G.at_ i w e
    refine ⟨v, hv, r.stay (fun _ _ h => h) fun a u ea q => ?_⟩
    have hb : a ≠ L := fun z => no i (by rw [← z]; exact ea)
    rw [upd_ne hb]; exact q
theorem LD.put {K : PySem.W.Frag} {g : Gh} {H : Hp} {L : Addr} {acc : Acc} {k : Key} {d : D} {v : V} (h : LD K g H L acc) (rd : RepD K g.Z d v) : ∃ kvs, H L = some (.dK kvs) ∧ kvs.length = acc.1.length ∧ LD K g (upd H L (.dK (putK kvs k v))) L (dput acc.1 acc.2 (.inl k) d) := by
  obtain ⟨kk, vs, e1, e2, e3, e4, r⟩ := h.rep
  obtain ⟨f1, f2⟩ := dput_rep (k := k) rd r e2
  refine ⟨_, e4, by rw [e1, List.length_map, List.length_zip, e2, Nat.min_self], ⟨⟨(vput kk vs k v).1, (vput kk vs k v).2, ?_, vput_len e2, (vput_keys e2).2 e3, ?_, ?_⟩, h.nz, h.no⟩⟩
  · rw [e1]; exact f1
  · rw [upd_same, putK_zip e2 e3]
  · rw [e1]; exact f2
/-- what is known of all names after a turn, from any base -/
theorem Rel.restored2 {K : PySem.W.Frag} {gB g1 g4 : Gh} {ρ1 ρ4 : Rho} {σ σ2 : L2.St} {HB H1 H4 : Hp} {io vs : List Nat} (hio : gB.io = io) (x : Ext gB HB g4 H4) (hz : ∀ b o, g1.Z b = some o → g4.Z b = some o) (G1 : Rel K g1 ρ1 σ H1) (h : vsOk io vs ρ1 = true) (G4 : Rel K g4 ρ4 σ2 H4) (hw : wipe σ2 vs = wipe σ vs) :
    ∃ g5, Ext gB HB g5 H4 ∧ Rel K g5 (restR ρ1 ρ4 vs) σ H4 ∧ g5.Z = g4.Z ∧ ∀ i a, g5.own i = some a → g4.own i = some a := by
  have l2 : σ2.length = σ.length := by rw [← wipe_length σ2 vs, hw, wipe_length]
  have hl : ρ1.length = ρ4.length := by rw [G1.len, G4.len, l2]
  have dn : ∀ {i : Nat} {a : Addr}, (if i ∈ vs then none else g4.own i) = some a → i ∉ vs ∧ g4.own i = some a := fun {i a} e => by
    by_cases hi : i ∈ vs
    · rw [if_pos hi] at e; cases e
    · rw [if_neg hi] at e; exact ⟨hi, e⟩
  refine ⟨⟨g4.Z, fun i => if i ∈ vs then none else g4.own i, g4.io⟩, ⟨x.z, x.fr, x.fr2, x.nw, fun i a e => x.ow i a (dn e).2, x.io, fun i hi => ?_⟩, ⟨by rw [restR_len, G4.len, l2], G4.sub, fun i w e => ?_, fun i e => ?_, fun i a e => G4.nz i a (dn e).2, fun i j a e1 e2 => G4.inj i j a (dn e1).2 (dn e2).2⟩, rfl, fun i a e => (dn e).2⟩
  · show (if i ∈ vs then none else g4.own i) = gB.own i
    have hv : i ∉ vs := fun hv => absurd (hio ▸ hi) (vsOk_mem h hv).1
    rw [if_neg hv]
    exact x.ioo i hi
  · rw [look_restR hl] at e
    show ∃ v, σ[i]? = some (some v) ∧ RepW K g4.Z H4 w v (if i ∈ vs then none else g4.own i)
    by_cases hi : i ∈ vs
    · rw [if_pos hi] at e ⊢
      obtain ⟨v, hv, r⟩ := G1.at_ i w e
      have hd := (vsOk_mem h hi).2
      rw [e] at hd
      cases w with
      | dat d => exact ⟨v, hv, rfl, r.2.sub (.of hz)⟩
      | _ => cases hd
    · rw [if_neg hi] at e ⊢
      obtain ⟨v, hv, r⟩ := G4.at_ i w e
      have q : (wipe σ2 vs)[i]? = (wipe σ vs)[i]? := by rw [hw]
      rw [wipe_get, wipe_get, if_neg hi, if_neg hi] at q
      exact ⟨v, by rw [← q]; exact hv, r⟩
  · rw [look_restR hl] at e
    show (if i ∈ vs then none else g4.own i) = none
    by_cases hi : i ∈ vs
    · rw [if_pos hi]
    · rw [if_neg hi] at e ⊢; exact G4.emp i e
def dcL (vs : List Nat) (ρ0 : Rho) (ft : D → Rho → Rs Unit) (body : Acc → Rho → Rs Acc) : List D → Rho → Acc → Rs Acc
  | [], ρ, acc => .ok acc ρ
  | d :: ds, ρ, acc => (nox (ft d (wipeR ρ vs))).bind fun _ ρ2 => (nox (body acc ρ2)).bind fun acc' ρ3 => dcL vs ρ0 ft body ds (restR ρ0 ρ3 vs) acc'
/-- the turns of one source -/
theorem dc_turns {c : Ct} {gB g1 : Gh} {σ : L2.St} {HB H1 : Hp} {Qf : Hp → Prop} {J : It} {xs : List D} {ρ1 : Rho} {vs : List Nat} {ft : D → Rho → Rs Unit} {body : Acc → Rho → Rs Acc} {B : L2.St → Hp → (Hp → Prop) → Prop} {L : Addr} {acc0 : Acc}
    (hio : gB.io = c.io) (hB : HB L = none) (x1 : Ext gB HB g1 H1) (G1 : Rel c.K g1 ρ1 σ H1) (wk : Walk c.K gB HB J xs) (ok : vsOk c.io vs ρ1 = true) (ld : LD c.K g1 H1 L acc0)
    (step : ∀ acc ρ2 g2 σ2 H2 (N : Hp → Prop) acc' ρ3, Ext gB HB g2 H2 → (∀ b o, g1.Z b = some o → g2.Z b = some o) → Rel c.K g2 ρ2 σ2 H2 → LD c.K g2 H2 L acc → body acc ρ2 = .ok acc' ρ3 →
      (∀ g3 H3, Ext gB HB g3 H3 → (∀ b o, g2.Z b = some o → g3.Z b = some o) → Rel c.K g3 ρ3 σ2 H3 → LD c.K g3 H3 L acc' → N H3) → B σ2 H2 N)
    (p : ∃ acc' ρ', dcL vs ρ1 ft body xs ρ1 acc0 = .ok acc' ρ' ∧ ∀ g' H', Ext gB HB g' H' → (∀ b o, g1.Z b = some o → g'.Z b = some o) → Rel c.K g' ρ' σ H' → LD c.K g' H' L acc' → Qf H') :
    ∃ W : Nat → Nat → Hp → Prop, (∃ m, W 0 m H1) ∧ ∀ i m H, W i m H →
      (J.stop i H ∧ Qf H) ∨ (J.go i H ∧ ∃ N : Hp → Prop, (∀ H', N H' → ∃ m', m' < m ∧ W (i + 1) m' H') ∧ ∀ x H', J.yld i H x H' → tSg ⟨c.K, WF, c.io⟩ vs ft x (wipe σ vs) H' fun σ2 H2 => wipe σ2 vs = wipe σ vs ∧ B σ2 H2 N) := by
  obtain ⟨accE, ρE, pe, pq⟩ := p
  let St : Nat → Hp → Prop := fun i H => ∃ ρ g acc, Ext gB HB g H ∧ (∀ b o, g1.Z b = some o → g.Z b = some o) ∧ Rel c.K g ρ σ H ∧ (∀ v ∈ vs, look ρ v = look ρ1 v) ∧ LD c.K g H L acc ∧ dcL vs ρ1 ft body (xs.drop i) ρ acc = .ok accE ρE
  refine ⟨fun i m H => i ≤ xs.length ∧ m = xs.length - i ∧ St i H, ⟨xs.length, Nat.zero_le _, by simp, ρ1, g1, acc0, x1, fun _ _ h => h, G1, fun _ _ => rfl, ld, pe⟩, ?_⟩
  rintro i m H ⟨hi, rfl, ρ, g, acc, x, hz, G, hv, ld, p⟩
  by_cases e : i = xs.length
  · subst e
    rw [List.drop_length] at p
    cases p
    exact .inl ⟨wk.stop g H x G.sub, pq g H x hz G ld⟩
  have hlt : i < xs.length := by omega
  refine .inr ⟨wk.go i g H x G.sub hlt, fun H' => i + 1 ≤ xs.length ∧ St (i + 1) H', fun H2 h => ⟨xs.length - (i + 1), by omega, h.1, rfl, h.2⟩, fun u H2 y => ?_⟩
  have hd : xs[i]? = some xs[i] := by simp [hlt]
  obtain ⟨Z2, nw, rd⟩ := wk.yld i g H u H2 _ x G.sub hd y
  obtain ⟨ex, G2⟩ := nw.ext G
  rw [List.drop_eq_getElem_cons hlt] at p
  have ok' : vsOk c.io vs ρ = true := by
    unfold vsOk
    rw [List.all_eq_true]
    intro v hvm
    obtain ⟨a1, a2⟩ := vsOk_mem ok hvm
    rw [hv v hvm]
    simp [a1, a2]
  have Gw := G2.wiped ok'
  have p : ((nox (ft xs[i] (wipeR ρ vs))).bind fun _ ρ2 => (nox (body acc ρ2)).bind fun acc' ρ3 => dcL vs ρ1 ft body (xs.drop (i + 1)) (restR ρ1 ρ3 vs) acc') = .ok accE ρE := p
  obtain ⟨⟨⟩, ρ2, e2, p2⟩ := nox_ok (P := fun z => z = Rs.ok accE ρE) (fun z => nomatch z) p
  obtain ⟨acc', ρ3, e3, p3⟩ := nox_ok (P := fun z => z = Rs.ok accE ρE) (fun z => nomatch z) p2
  refine ⟨xs[i], wipeR ρ vs, ⟨Z2, g.own, g.io⟩, x.io.trans hio, Gw, rd, ?_⟩
  rw [e2]
  intro σ2 H3 g3 s3 x3 G3
  have hw := wipe_same s3
  have x03 : Ext gB HB g3 H3 := x.trans (ex.trans x3)
  have z3 : ∀ b o, g1.Z b = some o → g3.Z b = some o := fun b o h => (ex.trans x3).z b o (hz b o h)
  refine ⟨hw, step acc ρ2 g3 σ2 H3 _ acc' ρ3 x03 z3 G3 ((ld.ext ex).ext x3) e3 fun g4 H4 x4 z4 G4 ld4 => ?_⟩
  have z14 : ∀ b o, g1.Z b = some o → g4.Z b = some o := fun b o h => z4 b o (z3 b o h)
  obtain ⟨g5, x5, G5, z5, o5⟩ := Rel.restored2 hio x4 z14 G1 ok G4 hw
  have hl : ρ1.length = ρ3.length := by rw [G1.len, G4.len, ← wipe_length σ2 vs, hw, wipe_length]
  refine ⟨hlt, _, g5, acc', x5, fun b o h => by rw [z5]; exact z14 b o h, G5, fun v hvm => by rw [look_restR hl, if_pos hvm], ⟨?_, by rw [z5]; exact ld4.nz, fun i q => ld4.no i (o5 i L q)⟩, p3⟩
  rw [z5]
  exact ld4.rep
theorem dcL_noexc {vs : List Nat} {ρ0 : Rho} {ft : D → Rho → Rs Unit} {body : Acc → Rho → Rs Acc} {cn : Str} {ns : List Str} {es : List D} {ρ' : Rho} : ∀ {ds : List D} {ρ : Rho} {acc : Acc}, dcL vs ρ0 ft body ds ρ acc ≠ .exc cn ns es ρ'
  | [], ρ, acc, h => by cases h
  | d :: ds, ρ, acc, h => by
    rw [dcL] at h
    cases e1 : ft d (wipeR ρ vs) with
    | stuck => rw [e1] at h; cases h
    | exc => rw [e1] at h; cases h
    | ok u ρ2 =>
      rw [e1] at h
      have h : ((nox (body acc ρ2)).bind fun acc' ρ3 => dcL vs ρ0 ft body ds (restR ρ0 ρ3 vs) acc') = .exc cn ns es ρ' := h
      cases e2 : body acc ρ2 with
      | stuck => rw [e2] at h; cases h
      | exc => rw [e2] at h; cases h
      | ok acc' ρ3 =>
        rw [e2] at h
        exact dcL_noexc (ds := ds) h
/-- a walk that asks nothing of the heap -/
def repWr (c : Ct) : Gh → Hp → List D → It → Prop := fun _ _ xs J => ∀ g H, Walk c.K g H J xs
def tIr (c : Ct) (f : Rho → Rs (List D)) : TI := fun σ H R => ∃ ρ g, g.io = c.io ∧ Rel c.K g ρ σ H ∧ Post c g σ H (repWr c) R (f ρ)
def SIr (X : Cx) (Wx : WX) (io : List Nat) (tg it : Expr) (f : Rho → Rs (List D)) : Prop := PI X tg it (tIr ⟨X.K, Wx, io⟩ f)
theorem SIr_range1 {X : Cx} {Wx : WX} {io : List Nat} {tg a : Expr} {f : Rho → Rs R} {p pos : Pos} (hg : Gl X "range") (hm : X.mg "range" = none) (ha : SE X Wx io a f) (hs : starEach [a] X.env = [(false, eval a X.env)]) : SIr X Wx io tg (.Call (.Name "range" p) [a] [] pos) (itR1 f) :=
  PI.imp (pi_range1 hg hm (pa_cons ha pa_nil hs) hs) fun σ H Q ⟨ρ, g, hio, G, q⟩ => by
    refine tS.bind hio (.refl g H) G q fun r ρ1 g1 v H1 _ x1 G1 r1 p1 => ?_
    obtain ⟨j, hj, p2⟩ := p1.optb
    by_cases hb : inR j
    · rw [if_pos hb] at p2
      exact ⟨j, by rw [R.int_v (c := ⟨X.K, Wx, io⟩) G1 r1 hj], hb.1, hb.2, p2 _ H1 g1 x1 G1 fun g H => Walk.rng⟩
    · rw [if_neg hb] at p2; exact p2.elim
def bdK (io : List Nat) (fk fv : Rho → Rs R) (acc : Acc) (ρ : Rho) : Rs Acc := (fk ρ).bind fun r ρ1 => (opt ((r.view ρ1).bind keyD) ρ1).bind fun k ρ2 => (fv ρ2).bind fun q ρ3 => (freeze io q ρ3).bind fun d ρ4 =>
  if acc.1.length < sizeLine then .ok (dput acc.1 acc.2 k d) ρ4 else .stuck
def bdI (io vs' : List Nat) (fi' : Rho → Rs (List D)) (ft' : D → Rho → Rs Unit) (fk fv : Rho → Rs R) (acc : Acc) (ρ : Rho) : Rs Acc := (fi' ρ).bind fun ys ρ1 => if vsOk io vs' ρ1 = true then dcL vs' ρ1 ft' (bdK io fk fv) ys ρ1 acc else .stuck
def evDc2 (io vs vs' : List Nat) (fi : Rho → Rs (List D)) (ft : D → Rho → Rs Unit) (fi' : Rho → Rs (List D)) (ft' : D → Rho → Rs Unit) (fk fv : Rho → Rs R) (ρ : Rho) : Rs R := (fi ρ).bind fun xs ρ1 =>
  if vsOk io vs ρ1 = true then (dcL vs ρ1 ft (bdI io vs' fi' ft' fk fv) xs ρ1 ([], [])).bind fun acc ρ2 => .ok (.tmp (.dic acc.1 acc.2)) ρ2 else .stuck
def bIn (c : Ct) (fk fv : Rho → Rs R) (L : Addr) (υ : L2.St) (H5 : Hp) (N' : Hp → Prop) : Prop := tS c fk υ H5 fun y H6 => tS c fv υ H6 fun z H7 => ∃ kvs k, y = kV k ∧ H7 L = some (.dK kvs) ∧ kvs.length < sizeLine ∧ N' (upd H7 L (.dK (putK kvs k z)))
def bOut (c : Ct) (vs' : List Nat) (fi' : Rho → Rs (List D)) (ft' : D → Rho → Rs Unit) (fk fv : Rho → Rs R) (L : Addr) (τ : L2.St) (H2 : Hp) (N : Hp → Prop) : Prop := tIr c fi' τ H2 fun J' H4 => ∃ W' : Nat → Nat → Hp → Prop, (∃ m, W' 0 m H4) ∧ ∀ j k H, W' j k H →
  (J'.stop j H ∧ N H) ∨ (J'.go j H ∧ ∃ N' : Hp → Prop, (∀ H', N' H' → ∃ k', k' < k ∧ W' (j + 1) k' H') ∧ ∀ x H', J'.yld j H x H' → tSg ⟨c.K, WF, c.io⟩ vs' ft' x (wipe τ vs') H' fun υ H5 => wipe υ vs' = wipe τ vs' ∧ bIn c fk fv L υ H5 N')
theorem rs_bind_ok {α β : Type} {x : Rs α} {f : α → Rho → Rs β} {b : β} {ρ : Rho} (h : x.bind f = .ok b ρ) : ∃ a ρ1, x = .ok a ρ1 ∧ f a ρ1 = .ok b ρ := by
  cases x with
  | ok a ρ1 => exact ⟨a, ρ1, rfl, h⟩
  | exc => cases h
  | stuck => cases h
theorem opt_ok {α : Type} {o : Option α} {ρ ρ' : Rho} {a : α} (h : opt o ρ = .ok a ρ') : o = some a ∧ ρ' = ρ := by
  cases o with
  | none => cases h
  | some b => cases h; exact ⟨rfl, rfl⟩
theorem bIn_ok {c : Ct} {gB : Gh} {HB : Hp} {fk fv : Rho → Rs R} {L : Addr} (hio : gB.io = c.io) (hB : HB L = none) {acc : Acc} {ρ2 : Rho} {g2 : Gh} {σ2 : L2.St} {H2 : Hp} {N : Hp → Prop} {acc' : Acc} {ρ3 : Rho} (x2 : Ext gB HB g2 H2) (G2 : Rel c.K g2 ρ2 σ2 H2) (ld : LD c.K g2 H2 L acc) (e : bdK c.io fk fv acc ρ2 = .ok acc' ρ3)
    (k : ∀ g3 H3, Ext gB HB g3 H3 → (∀ b o, g2.Z b = some o → g3.Z b = some o) → Rel c.K g3 ρ3 σ2 H3 → LD c.K g3 H3 L acc' → N H3) : bIn c fk fv L σ2 H2 N := by
  have w1 : ((fk ρ2).bind fun r ρ1 => (opt ((r.view ρ1).bind keyD) ρ1).bind fun k ρ2 => (fv ρ2).bind fun q ρ3 => (freeze c.io q ρ3).bind fun d ρ4 => if acc.1.length < sizeLine then .ok (dput acc.1 acc.2 k d) ρ4 else .stuck) = Rs.ok acc' ρ3 := e
  clear e
  obtain ⟨r, ρ4, e1, w2⟩ := rs_bind_ok w1
  obtain ⟨kk, ρ5, e2, w3⟩ := rs_bind_ok w2
  obtain ⟨e2, rfl⟩ := opt_ok e2
  obtain ⟨q, ρ6, e3, w4⟩ := rs_bind_ok w3
  obtain ⟨d, ρ7, e4, w5⟩ := rs_bind_ok w4
  have hz : acc.1.length < sizeLine := by
    by_cases hz : acc.1.length < sizeLine
    · exact hz
    · rw [if_neg hz] at w5; cases w5
  rw [if_pos hz] at w5
  cases w5
  have io2 : g2.io = c.io := x2.io.trans hio
  refine ⟨ρ2, g2, io2, G2, ?_⟩
  rw [e1]
  intro y H6 g6 x6 G6 rr
  obtain ⟨dk, hv, hk⟩ := Option.bind_eq_some_iff.mp e2
  obtain ⟨k', rfl, rfl⟩ := keyD_rep (RepR.u G6 rr hv) hk
  have io6 : g6.io = c.io := x6.io.trans io2
  refine ⟨ρ5, g6, io6, G6, ?_⟩
  rw [e3]
  intro z H7 g7 x7 G7 rq
  rcases freeze_ok x7 G7 rq with ez | ⟨d', ρ8, g8, ez, x8, G8, rd⟩
  · rw [io6] at ez; rw [ez] at e4; cases e4
  · rw [io6] at ez
    rw [ez] at e4
    cases e4
    have ld8 := (ld.ext x6).ext x8
    obtain ⟨kvs, hL, hlen, ldp⟩ := ld8.put (k := k') rd
    refine ⟨kvs, k', rfl, hL, by rw [hlen]; exact hz, k g8 _ ((x2.trans (x6.trans x8)).put hB) (fun b o h => (x6.trans x8).z b o h) (Rel.updL ld8.nz ld8.no G8) ldp⟩
theorem bOut_ok {c : Ct} {gB : Gh} {HB : Hp} {vs' : List Nat} {fi' : Rho → Rs (List D)} {ft' : D → Rho → Rs Unit} {fk fv : Rho → Rs R} {L : Addr} (hio : gB.io = c.io) (hB : HB L = none) {acc : Acc} {ρ2 : Rho} {g2 : Gh} {σ2 : L2.St} {H2 : Hp} {N : Hp → Prop} {acc' : Acc} {ρ3 : Rho} (x2 : Ext gB HB g2 H2) (G2 : Rel c.K g2 ρ2 σ2 H2) (ld : LD c.K g2 H2 L acc) (e : bdI c.io vs' fi' ft' fk fv acc ρ2 = .ok acc' ρ3)
    (k : ∀ g3 H3, Ext gB HB g3 H3 → (∀ b o, g2.Z b = some o → g3.Z b = some o) → Rel c.K g3 ρ3 σ2 H3 → LD c.K g3 H3 L acc' → N H3) : bOut c vs' fi' ft' fk fv L σ2 H2 N := by
  obtain ⟨ys, ρ4, e1, e⟩ := rs_bind_ok e
  have ov : vsOk c.io vs' ρ4 = true := by
    by_cases ov : vsOk c.io vs' ρ4 = true
    · exact ov
    · rw [if_neg ov] at e; cases e
  rw [if_pos ov] at e
  refine ⟨ρ2, g2, x2.io.trans hio, G2, ?_⟩
  rw [e1]
  intro J' H4 g4 x4 G4 wk
  exact dc_turns (c := c) (B := bIn c fk fv L) hio hB (x2.trans x4) G4 (wk gB HB) ov (ld.ext x4) (fun acc ρ5 g5 σ5 H5 N acc' ρ6 x5 z5 G5 ld5 e5 k5 => bIn_ok hio hB x5 G5 ld5 e5 k5)
    ⟨acc', ρ3, e, fun g' H' x' z' G' l' => k g' H' x' (fun b o h => z' b o (x4.z b o h)) G' l'⟩
theorem fresh_no {K : PySem.W.Frag} {g : Gh} {ρ : Rho} {σ : L2.St} {H : Hp} {L : Addr} (G : Rel K g ρ σ H) (hL : H L = none) : g.Z L = none ∧ ∀ i, g.own i ≠ some L := by
  refine ⟨?_, fun i e => ?_⟩
  · cases q : g.Z L with
    | none => rfl
    | some o => rcases G.sub L o q with z | ⟨_, _, z⟩ <;> rw [hL] at z <;> cases z
  · obtain ⟨o, z⟩ := G.alive e
    rw [hL] at z; cases z
theorem LD.repW {K : PySem.W.Frag} {g : Gh} {H : Hp} {L : Addr} {acc : Acc} (h : LD K g H L acc) : RepW K g.Z H (.dic acc.1 acc.2) (.ref L) (some L) := by
  obtain ⟨kk, vs, e1, e2, e3, e4, r⟩ := h.rep
  exact ⟨L, vs, rfl, rfl, ⟨by rw [e1, List.length_map, e2], by rw [e1]; exact nodup_inl' e3, .inl ⟨kk, e1, e4⟩⟩, r⟩
theorem dc2_start {c : Ct} {g1 : Gh} {σ : L2.St} {H1 : Hp} {Qf : Hp → Prop} {J : It} {xs : List D} {ρ1 : Rho} {vs vs' : List Nat} {ft : D → Rho → Rs Unit} {fi' : Rho → Rs (List D)} {ft' : D → Rho → Rs Unit} {fk fv : Rho → Rs R} {L : Addr}
    (hio : g1.io = c.io) (hL : H1 L = none) (G1 : Rel c.K g1 ρ1 σ H1) (wk : Walk c.K g1 H1 J xs) (ok : vsOk c.io vs ρ1 = true)
    (p : ∃ acc' ρ', dcL vs ρ1 ft (bdI c.io vs' fi' ft' fk fv) xs ρ1 ([], []) = .ok acc' ρ' ∧ ∀ g' H', Ext g1 H1 g' H' → Rel c.K g' ρ' σ H' → LD c.K g' H' L acc' → Qf H') :
    ∃ W : Nat → Nat → Hp → Prop, (∃ m, W 0 m (upd H1 L (.dK []))) ∧ ∀ i m H, W i m H →
      (J.stop i H ∧ Qf H) ∨ (J.go i H ∧ ∃ N : Hp → Prop, (∀ H', N H' → ∃ m', m' < m ∧ W (i + 1) m' H') ∧ ∀ x H', J.yld i H x H' → tSg ⟨c.K, WF, c.io⟩ vs ft x (wipe σ vs) H' fun σ2 H2 => wipe σ2 vs = wipe σ vs ∧ bOut ⟨c.K, WF, c.io⟩ vs' fi' ft' fk fv L σ2 H2 N) := by
  obtain ⟨nz, no⟩ := fresh_no G1 hL
  obtain ⟨acc', ρ', e, k⟩ := p
  exact dc_turns (c := ⟨c.K, WF, c.io⟩) (B := bOut ⟨c.K, WF, c.io⟩ vs' fi' ft' fk fv L) hio hL ((Ext.refl g1 H1).put hL) (Rel.updL nz no G1) wk ok ⟨⟨[], [], rfl, rfl, List.nodup_nil, upd_same, .nil⟩, nz, no⟩
    (fun acc ρ5 g5 σ5 H5 N acc' ρ6 x5 z5 G5 ld5 e5 k5 => bOut_ok (c := ⟨c.K, WF, c.io⟩) hio hL x5 G5 ld5 e5 k5) ⟨acc', ρ', e, fun g' H' x' _ G' l' => k g' H' x' G' l'⟩
end Spl

set_option maxHeartbeats 2000000
namespace Spl
open PySem PySem.Spec L2
open PyProof.Rows
section
variable {X : Cx} {Wx : WX} {io : List Nat} {kx vx a xs b ys : Expr} {sc : Scope} {own : List (Str × Nat)} {vs' : List Nat} {q spos py : Pos} {ft : D → Rho → Rs Unit} {fi' : Rho → Rs (List D)} {ft' : D → Rho → Rs Unit} {fk fv : Rho → Rs R} {wi : TE → TI} {J : Addr → Obj → List (Key × V) → It} {f : List Key → List D → List D} {i : Nat}
/-- name = {k: v for a in d for b in range(..)} on one line -/
theorem SSt_setDc2D {n : Nat} {y : Str} (w : DW wi J f) (hc : X.calm = true) (hN : X.N.Nodup) (hy : X.N[n]? = some y) (hyl : X.env.scope.names.lookup y = some .local) (hsw : swapsWith (dce kx vx a xs b ys sc q) (some (.Name y py)) spos.line X.env = pure true)
    (hi : PI X a xs (wi (tVar i))) (ok : BlkOk X.N X.env.scope sc own) (hv : ∀ j ∈ vs', j ∈ own.map (·.2))
    (hg : ∀ (s : Shared) (H : Hp) (C : Addr) (cl : List (Str × Addr)) (fp : List Addr), SG (X.blk s H sc (compEnvC sc cl C X.env) fp) WF io (own.map (·.2)) a ft)
    (hi' : ∀ (s : Shared) (H : Hp) (C : Addr) (cl : List (Str × Addr)) (fp : List Addr), SIr (X.blk s H sc (compEnvC sc cl C X.env) fp) WF io b ys fi')
    (hg' : ∀ (s : Shared) (H : Hp) (C : Addr) (cl : List (Str × Addr)) (fp : List Addr), SG (X.blk s H sc (compEnvC sc cl C X.env) fp) WF io vs' b ft')
    (hk : ∀ (s : Shared) (H : Hp) (C : Addr) (cl : List (Str × Addr)) (fp : List Addr), SE (X.blk s H sc (compEnvC sc cl C X.env) fp) WF io kx fk)
    (hx : ∀ (s : Shared) (H : Hp) (C : Addr) (cl : List (Str × Addr)) (fp : List Addr), SE (X.blk s H sc (compEnvC sc cl C X.env) fp) WF io vx fv)
    (hs : ∀ z, foldedSetIterable xs X.env z = pure z) (hs' : ∀ env z, foldedSetIterable ys env z = pure z) :
    SSt X Wx io (.Assign [.Name y py] (dce kx vx a xs b ys sc q) spos) (stSet io n (evDc2 io (own.map (·.2)) vs' (itDic io i f) ft fi' ft' fk fv)) := by
  have base := ps_setDc2 (g := tSg ⟨X.K, WF, io⟩ (own.map fun p : Str × Nat => p.2) ft) (own := own) (wi' := tIr ⟨X.K, WF, io⟩ fi') (g' := tSg ⟨X.K, WF, io⟩ vs' ft') (tk := tS ⟨X.K, WF, io⟩ fk) (tv := tS ⟨X.K, WF, io⟩ fv) hc hN hy hyl hsw hi ok hv hg hi' hg' hk hx hs hs'
  refine PS.imp (ps_or (ps_lock base) base) fun E σ H ⟨ρ, g, hio, G, z⟩ => ?_
  have z : PostS ⟨X.K, Wx, io⟩ g σ H E ((itDic io i f ρ).bind fun us ρ1 => (if vsOk io (own.map (·.2)) ρ1 = true then (dcL (own.map (·.2)) ρ1 ft (bdI io vs' fi' ft' fk fv) us ρ1 ([], [])).bind fun acc ρ2 => Rs.ok (R.tmp (.dic acc.1 acc.2)) ρ2 else .stuck).bind fun r ρ1 => un (store io n r ρ1)) := by
    unfold stSet evDc2 at z
    cases e : itDic io i f ρ with
    | stuck => rw [e] at z; exact z
    | exc => rw [e] at z; exact z
    | ok us ρ1 => rw [e] at z; exact z
  obtain ⟨g1, ρ1, d, kk, vs, ds, x1, G1, hv1, rd, rl, hl, p⟩ := itDic_ok (c := ⟨X.K, Wx, io⟩) (γ := Fl) (δ := Unit) (rep' := fun _ _ _ _ => True) (P := PostS ⟨X.K, Wx, io⟩ g σ H E) (fun z => z) hio G z
  by_cases ov : vsOk io (own.map (·.2)) ρ1 = true
  · rw [if_pos ov] at p
    have no : ∀ j, g1.own j ≠ some d := fun j e => by
      have := G1.nz j d e
      rcases rd with r | ⟨o, r⟩ <;> rw [this] at r <;> cases r
    obtain ⟨acc', ρ', ed, p⟩ : ∃ acc' ρ', dcL (own.map (·.2)) ρ1 ft (bdI io vs' fi' ft' fk fv) (f kk ds) ρ1 ([], []) = .ok acc' ρ' ∧ PostS ⟨X.K, Wx, io⟩ g σ H E ((Rs.ok (R.tmp (.dic acc'.1 acc'.2)) ρ').bind fun r ρ1 => un (store io n r ρ1)) := by
      cases ed : dcL (own.map (·.2)) ρ1 ft (bdI io vs' fi' ft' fk fv) (f kk ds) ρ1 ([], []) with
      | stuck => rw [ed] at p; exact p.elim
      | exc => exact absurd ed dcL_noexc
      | ok acc' ρ' => rw [ed] at p; exact ⟨_, _, rfl, p⟩
    have fin : ∀ {H' : Hp} {g' : Gh} {L : Addr}, Ext g H g' H' → Rel X.K g' ρ' σ H' → LD X.K g' H' L acc' → H L = none → E.nx (σ.set n (some (.ref L))) H' := by
      intro H' g' L x' G' ld h0
      exact PostS.stored (c := ⟨X.K, Wx, io⟩) hio x' G' (r := .tmp (.dic acc'.1 acc'.2)) (v := .ref L) ⟨L, ld.repW, ld.nz, ld.no, h0⟩ p
    rcases rd_frz_or G1.sub rd with ⟨hz, hd⟩ | ⟨o, hd⟩
    · refine .inl ⟨d, _, hd, trivial, fun od => ?_⟩
      have Gl := G1.lock (od := od) hz hd trivial
      refine w.intro_ i σ _ _ d od _ hv1 upd_same fun L hL => ?_
      have hLd : L ≠ d := fun z => by rw [z, upd_same] at hL; cases hL
      have hL' : H L = none := by rw [upd_ne hLd] at hL; exact hL
      have wk : Walk X.K g1 (upd H d (.frz od (.dK (kk.zip vs)))) (J d od (kk.zip vs)) (f kk ds) := w.walk X.K g1 _ d od kk vs ds (fun g' H' x => x.fr _ _ upd_same no) rl hl
      refine dc2_start (Qf := fun H1 => gName n (.ref L) σ H1 fun σ' H' => H' d = some (.frz od (.dK (kk.zip vs))) ∧ E.nx σ' (upd H' d (.dK (kk.zip vs)))) (c := ⟨X.K, Wx, io⟩) (x1.io.trans hio) hL Gl wk ov ⟨acc', ρ', ed, fun g' H' x' G' ld => ?_⟩
      have hz' := x'.z d _ hz
      obtain ⟨kk2, vs2, q1, q2, q3, q4, q5⟩ := ld.rep
      exact ⟨x'.fr _ _ upd_same no, fin (x1.trans (x'.unlock hd)) (G'.unlock hz') ⟨⟨kk2, vs2, q1, q2, q3, by rw [upd_ne hLd]; exact q4, q5⟩, ld.nz, ld.no⟩ hL'⟩
    · refine .inr (w.intro_ i σ H _ d o _ hv1 hd fun L hL => ?_)
      have wk : Walk X.K g1 H (J d o (kk.zip vs)) (f kk ds) := w.walk X.K g1 _ d o kk vs ds (fun g' H' x => x.fr _ _ hd no) rl hl
      exact dc2_start (Qf := fun H1 => gName n (.ref L) σ H1 E.nx) (c := ⟨X.K, Wx, io⟩) (x1.io.trans hio) hL G1 wk ov ⟨acc', ρ', ed, fun g' H' x' G' ld => fin (x1.trans x') G' ld (Classical.byContradiction fun n => x1.fr2 L n hL)⟩
  · rw [if_neg ov] at p; exact p.elim
end
/-! list(range(n)) -/
def inL (j : Int) : Prop := 0 ≤ j ∧ j ≤ 16777216
noncomputable instance {j : Int} : Decidable (inL j) := Classical.propDecidable _
noncomputable def evListR (f : Rho → Rs R) (ρ : Rho) : Rs R := (f ρ).bind fun r ρ1 => (opt (r.int ρ1) ρ1).bind fun j ρ2 => if inL j then .ok (.tmp (.lst (upto 0 j.toNat))) ρ2 else .stuck
theorem upto_ints {n : Nat} : upto 0 n = ((List.range n).map fun k : Nat => (k : Int)).map D.int := by
  refine List.ext_getElem? fun i => ?_
  rw [List.map_map, List.getElem?_map]
  have e : (upto 0 n)[i]? = if i < n then some (D.int (0 + (i : Int))) else none := by
    have gen : ∀ (n : Nat) (a : Int) (i : Nat), (upto a n)[i]? = if i < n then some (D.int (a + (i : Int))) else none := by
      intro n
      induction n with
      | zero => intro a i; simp [upto]
      | succ n ih =>
        intro a i
        rw [upto]
        cases i with
        | zero => simp
        | succ i =>
          rw [List.getElem?_cons_succ, ih]
          by_cases h : i < n
          · rw [if_pos h, if_pos (by omega)]; congr 2; omega
          · rw [if_neg h, if_neg (by omega)]
    exact gen n 0 i
  rw [e]
  by_cases h : i < n
  · rw [if_pos h, List.getElem?_range h]; simp
  · rw [if_neg h, List.getElem?_eq_none (by simp; omega)]; rfl
theorem SE_listR {X : Cx} {Wx : WX} {io : List Nat} {a : Expr} {f : Rho → Rs R} {p p2 pos pos2 : Pos} (hc : X.calm = true) (hg : Gl X "list") (hm : X.mg "list" = none) (hg2 : Gl X "range") (hm2 : X.mg "range" = none) (ha : SE X Wx io a f) (na : starEach [a] X.env = (false, eval a X.env) :: starEach [] X.env)
    (nb : starEach [Expr.Call (.Name "range" p2) [a] [] pos2] X.env = (false, eval (Expr.Call (.Name "range" p2) [a] [] pos2) X.env) :: starEach [] X.env) : SE X Wx io (.Call (.Name "list" p) [.Call (.Name "range" p2) [a] [] pos2] [] pos) (evListR f) :=
  PE.imp (pe_listRg hc hg hm (prg_1 hg2 hm2 ha na) nb) fun σ H Q ⟨ρ, g, hio, G, q⟩ => by
    refine tS.bind (c := ⟨X.K, Wx, io⟩) hio (.refl g H) G q fun r ρ1 g1 v H1 _ x1 G1 r1 p1 => ?_
    obtain ⟨j, hj, p2⟩ := p1.optb
    by_cases hb : inL j
    · rw [if_pos hb] at p2
      refine ⟨j, by rw [R.int_v (c := ⟨X.K, Wx, io⟩) G1 r1 hj], RgOk.of_le (Int.le_refl _) hb.2 (by decide) hb.1, fun L hL => ?_⟩
      obtain ⟨nz, no⟩ := fresh_no G1 hL
      have h0 : H L = none := Classical.byContradiction fun n => x1.fr2 L n hL
      have rl : RepL X.K g1.Z (upto 0 j.toNat) (rgV 0 j) := by
        have e : rgV 0 j = ((List.range j.toNat).map fun k : Nat => (k : Int)).map V.int := by
          unfold rgV
          rw [Int.sub_zero, List.map_map]
          exact List.map_congr_left fun k _ => by show V.int (0 + (k : Int)) = V.int (k : Int); rw [Int.zero_add]
        rw [upto_ints, e]
        exact RepL.intsOf
      exact p2 (.ref L) _ g1 (x1.put h0) (Rel.updL nz no G1) ⟨L, ⟨L, _, rfl, rfl, upd_same, rl⟩, nz, no, h0⟩
    · rw [if_neg hb] at p2; exact p2.elim
theorem sw_dict {kx vx : Expr} {gs : List Comprehension} {sc : Scope} {pos py : Pos} {y : Str} {l : Nat} {env : Env} (hk : env.scope.kind = .function) (hy : env.scope.names.lookup y = some .local) (hl : (py.line == pos.line) = true)
    (ha : (sc.names.any fun (n, k) => n == y && (k == .local || k == .cell)) = false) : swapsWith (.DictComp kx vx gs sc pos) (some (.Name y py)) l env = pure true := by
  have k1 : env.kindOf y = some .local := hy
  have k2 : env.blockKind = .function := by unfold Env.blockKind; rw [hk]; rfl
  unfold swapsWith
  simp only [k2, k1, ha, Expr.pos, hl]
  rfl
end Spl

set_option maxHeartbeats 2000000
namespace Spl
open PySem PySem.Spec L2
open PyProof.Rows

/-! range(i, j, -1) -/
def dnto : Int → Nat → List D
  | _, 0 => []
  | i, n + 1 => .int i :: dnto (i - 1) n
theorem dnto_len : ∀ (i : Int) (n : Nat), (dnto i n).length = n
  | _, 0 => rfl
  | i, n + 1 => by rw [dnto, List.length_cons, dnto_len]
theorem dnto_get : ∀ (i : Int) (n k : Nat) (d : D), (dnto i n)[k]? = some d → d = .int (i + (k : Nat) * (-1))
  | _, 0, k, d, h => by simp [dnto] at h
  | i, n + 1, 0, d, h => by rw [dnto] at h; simp at h; rw [← h]; simp
  | i, n + 1, k + 1, d, h => by
    rw [dnto] at h
    have := dnto_get (i - 1) n k d (by simpa using h)
    rw [this]
    congr 1
    omega
theorem Walk.rngD {K : PySem.W.Frag} {g : Gh} {H : Hp} {lo : Int} {n : Nat} : Walk K g H (Itc lo (-1) n) (dnto lo n) where
  go := fun i g' H' x s hi => by rw [dnto_len] at hi; exact hi
  yld := fun i g' H' y H'' d x s hd ⟨e, q⟩ => by
    subst e
    rw [dnto_get _ _ _ _ hd, q]
    exact ⟨g'.Z, .refl s, repI⟩
  stop := fun g' H' x s => by rw [dnto_len]; exact Nat.le_refl _
noncomputable def itR3 (f h k : Rho → Rs R) (ρ : Rho) : Rs (List D) := (f ρ).bind fun r ρ1 => (h ρ1).bind fun q ρ2 => (k ρ2).bind fun z ρ3 => (opt (r.int ρ3) ρ3).bind fun i ρ4 => (opt (q.int ρ4) ρ4).bind fun j ρ5 => (opt (z.int ρ5) ρ5).bind fun c ρ6 =>
  if (inR i ∧ inR j) ∧ c = -1 then .ok (dnto i (i - j).toNat) ρ6 else .stuck
theorem SI_range3 {X : Cx} {Wx : WX} {io : List Nat} {tg a b c : Expr} {f h k : Rho → Rs R} {p pos : Pos} (hg : Gl X "range") (hm : X.mg "range" = none) (ha : SE X Wx io a f) (hb : SE X Wx io b h) (hcc : SE X Wx io c k)
    (hs : starEach [a, b, c] X.env = (false, eval a X.env) :: starEach [b, c] X.env) (hs2 : starEach [b, c] X.env = (false, eval b X.env) :: starEach [c] X.env) (hs3 : starEach [c] X.env = (false, eval c X.env) :: starEach [] X.env)
    (hpl : (backTo pos (starEach [b, c] X.env)).any (·.1) = false) : SI X Wx io tg (.Call (.Name "range" p) [a, b, c] [] pos) (itR3 f h k) :=
  PI.imp (pi_range3 hg hm (pa_cons ha (pa_cons hb (pa_cons hcc pa_nil hs3) hs2) hs) hs hpl) fun σ H Q ⟨ρ, g, hio, G, q⟩ => by
    refine tS.bind (c := ⟨X.K, Wx, io⟩) hio (.refl g H) G q fun r ρ1 g1 v H1 _ x1 G1 r1 p1 => ?_
    refine tS.bind (c := ⟨X.K, Wx, io⟩) hio x1 G1 p1 fun s ρ2 g2 u H2 x12 x2 G2 r2 p2 => ?_
    refine tS.bind (c := ⟨X.K, Wx, io⟩) hio x2 G2 p2 fun t ρ3 g3 w H3 x23 x3 G3 r3 p3 => ?_
    obtain ⟨i, hi, p4⟩ := p3.optb
    obtain ⟨j, hj, p5⟩ := p4.optb
    obtain ⟨l, hl, p6⟩ := p5.optb
    by_cases hb : (inR i ∧ inR j) ∧ l = -1
    · rw [if_pos hb] at p6
      obtain ⟨⟨h1, h2⟩, rfl⟩ := hb
      exact ⟨i, j, -1, (i - j).toNat, by rw [R.int_v (c := ⟨X.K, Wx, io⟩) G3 ((r1.ext x12).ext x23) hi, R.int_v (c := ⟨X.K, Wx, io⟩) G3 (r2.ext x23) hj, R.int_v (c := ⟨X.K, Wx, io⟩) G3 r3 hl], .neg h1.1 h1.2 h2.1 h2.2, p6 _ H3 g3 x3 G3 Walk.rngD⟩
    · rw [if_neg hb] at p6; exact p6.elim

/-! the last thing of the list in slot i, a dict -/
def itLast (i : Nat) (ρ : Rho) : Rs (List D) := match look ρ i with
  | some (.lst xs) => match L2.atI xs (-1) with
    | some (.dic ks ds) => if allInl ks = true then .ok (keysOf (outInl ks) ds) ρ else .stuck
    | _ => .stuck
  | _ => .stuck
theorem itLast_ok {K : PySem.W.Frag} {g : Gh} {ρ ρ1 : Rho} {σ : L2.St} {H : Hp} {i : Nat} {us : List D} (G : Rel K g ρ σ H) (h : itLast i ρ = .ok us ρ1) :
    ρ1 = ρ ∧ ∃ (L : Addr) (vs0 : List V) (d : Addr) (kk : List Key) (vs : List V) (ds : List D), us = keysOf kk ds ∧ σ[i]? = some (some (.ref L)) ∧ H L = some (.lst vs0) ∧ L2.atI vs0 (-1) = some (.ref d) ∧ Rd g.Z d (.dK (kk.zip vs)) ∧ RepL K g.Z ds vs ∧ kk.length = vs.length := by
  unfold itLast at h
  split at h
  · rename_i xs e
    split at h
    · rename_i ks ds e2
      by_cases ha : allInl ks = true
      · rw [if_pos ha] at h
        cases h
        obtain ⟨v, hv, r⟩ := G.at_ i _ e
        obtain ⟨L, vs0, rfl, ho, hL, rl⟩ := r
        obtain ⟨u, hu, ru⟩ := atI_rep rl e2
        unfold RepD at ru
        obtain ⟨d, vs, rfl, di, rv⟩ := ru
        obtain ⟨kk, rfl, hl, nd, rk⟩ := di.plain ha
        rw [unInl]
        exact ⟨rfl, L, vs0, d, kk, vs, ds, rfl, hv, hL, hu, rk, rv, hl⟩
      · rw [if_neg ha] at h; cases h
    · cases h
  · cases h
theorem itLast_noexc {i : Nat} {ρ ρ' : Rho} {cn : Str} {ns : List Str} {es : List D} : itLast i ρ ≠ .exc cn ns es ρ' := by
  unfold itLast
  split
  · split
    · split <;> simp
    · simp
  · simp
/-- what reads slot i's last thing -/
def TLast (i : Nat) (td : TE) : Prop := ∀ (σ : L2.St) (H : Hp) (Q : VK) (L : Addr) (vs0 : List V) (v : V), σ[i]? = some (some (.ref L)) → H L = some (.lst vs0) → L2.atI vs0 (-1) = some v → Q v H → td σ H Q
theorem td_last {K : PySem.W.Frag} {i : Nat} : TLast i (tOp (rIxL K) (tVar i) (tUn (rU fun i => .int (-i)) (tC (.int 1)))) :=
  fun σ H Q L vs0 v h1 h2 h3 q => ⟨_, h1, 1, rfl, L, vs0, -1, v, rfl, rfl, .of h2, h3, q⟩
section
variable {X : Cx} {Wx : WX} {io : List Nat} {kx vx a xs b ys : Expr} {sc : Scope} {own : List (Str × Nat)} {vs' : List Nat} {q : Pos} {ft : D → Rho → Rs Unit} {fi' : Rho → Rs (List D)} {ft' : D → Rho → Rs Unit} {fk fv : Rho → Rs R} {td : TE} {i : Nat}
/-- {k: v for a in l[-1] for b in range(..)} -/
theorem SE_dc2L (tl : TLast i td) (hc : X.calm = true) (hN : X.N.Nodup)
    (he : PE X xs td) (ok : BlkOk X.N X.env.scope sc own) (hv : ∀ j ∈ vs', j ∈ own.map (·.2))
    (hg : ∀ (s : Shared) (H : Hp) (C : Addr) (cl : List (Str × Addr)) (fp : List Addr), SG (X.blk s H sc (compEnvC sc cl C X.env) fp) WF io (own.map (·.2)) a ft)
    (hi' : ∀ (s : Shared) (H : Hp) (C : Addr) (cl : List (Str × Addr)) (fp : List Addr), SIr (X.blk s H sc (compEnvC sc cl C X.env) fp) WF io b ys fi')
    (hg' : ∀ (s : Shared) (H : Hp) (C : Addr) (cl : List (Str × Addr)) (fp : List Addr), SG (X.blk s H sc (compEnvC sc cl C X.env) fp) WF io vs' b ft')
    (hk : ∀ (s : Shared) (H : Hp) (C : Addr) (cl : List (Str × Addr)) (fp : List Addr), SE (X.blk s H sc (compEnvC sc cl C X.env) fp) WF io kx fk)
    (hx : ∀ (s : Shared) (H : Hp) (C : Addr) (cl : List (Str × Addr)) (fp : List Addr), SE (X.blk s H sc (compEnvC sc cl C X.env) fp) WF io vx fv)
    (hs : ∀ z, foldedSetIterable xs X.env z = pure z) (hs' : ∀ env z, foldedSetIterable ys env z = pure z) :
    SE X Wx io (dce kx vx a xs b ys sc q) (evDc2 io (own.map (·.2)) vs' (itLast i) ft fi' ft' fk fv) := by
  have base := pe_dc2 (q := q) (g := tSg ⟨X.K, WF, io⟩ (own.map fun p : Str × Nat => p.2) ft) (own := own) (wi' := tIr ⟨X.K, WF, io⟩ fi') (g' := tSg ⟨X.K, WF, io⟩ vs' ft') (tk := tS ⟨X.K, WF, io⟩ fk) (tv := tS ⟨X.K, WF, io⟩ fv) hc hN (pi_keys he) ok hv hg hi' hg' hk hx hs hs'
  refine PE.imp (pe_or (pe_lock base) base) fun σ H Q ⟨ρ, g, hio, G, z⟩ => ?_
  unfold evDc2 at z
  cases e0 : itLast i ρ with
  | stuck => rw [e0] at z; exact z.elim
  | exc => exact absurd e0 itLast_noexc
  | ok us ρ1 =>
    rw [e0] at z
    obtain ⟨e1, L0, vs0, d, kk, vs, ds, rfl, hv0, hL0, ha0, rd, rl, hl⟩ := itLast_ok G e0
    have e1 := e1.symm
    subst e1
    have p : Post ⟨X.K, Wx, io⟩ g σ H (repR ⟨X.K, Wx, io⟩ σ H) Q (if vsOk io (own.map (·.2)) ρ = true then (dcL (own.map (·.2)) ρ ft (bdI io vs' fi' ft' fk fv) (keysOf kk ds) ρ ([], [])).bind fun acc ρ2 => .ok (.tmp (.dic acc.1 acc.2)) ρ2 else .stuck) := z
    by_cases ov : vsOk io (own.map (·.2)) ρ = true
    · rw [if_pos ov] at p
      have no : ∀ j, g.own j ≠ some d := fun j e => by
        have := G.nz j d e
        rcases rd with r | ⟨o, r⟩ <;> rw [this] at r <;> cases r
      obtain ⟨acc', ρ', ed, p⟩ : ∃ acc' ρ', dcL (own.map (·.2)) ρ ft (bdI io vs' fi' ft' fk fv) (keysOf kk ds) ρ ([], []) = .ok acc' ρ' ∧ Post ⟨X.K, Wx, io⟩ g σ H (repR ⟨X.K, Wx, io⟩ σ H) Q (Rs.ok (R.tmp (.dic acc'.1 acc'.2)) ρ') := by
        cases ed : dcL (own.map (·.2)) ρ ft (bdI io vs' fi' ft' fk fv) (keysOf kk ds) ρ ([], []) with
        | stuck => rw [ed] at p; exact p.elim
        | exc => exact absurd ed dcL_noexc
        | ok acc' ρ' => rw [ed] at p; exact ⟨_, _, rfl, p⟩
      have fin : ∀ {H' : Hp} {g' : Gh} {L : Addr}, Ext g H g' H' → Rel X.K g' ρ' σ H' → LD X.K g' H' L acc' → H L = none → Q (.ref L) H' := by
        intro H' g' L x' G' ld h0
        exact p (.ref L) H' g' x' G' ⟨L, ld.repW, ld.nz, ld.no, h0⟩
      rcases rd_frz_or G.sub rd with ⟨hz, hd⟩ | ⟨o, hd⟩
      · refine .inl ⟨d, _, hd, trivial, fun od => ?_⟩
        have Gl := G.lock (od := od) hz hd trivial
        have ne : L0 ≠ d := fun z => by rw [z, hd] at hL0; cases hL0
        refine tl σ _ _ L0 vs0 _ hv0 (by rw [upd_ne ne]; exact hL0) ha0 ⟨d, od, rfl, .inl ⟨_, upd_same, fun L hL => ?_⟩⟩
        have hLd : L ≠ d := fun z => by rw [z, upd_same] at hL; cases hL
        have hL' : H L = none := by rw [upd_ne hLd] at hL; exact hL
        have wk : Walk X.K g (upd H d (.frz od (.dK (kk.zip vs)))) (Itk d od (kk.zip vs)) (keysOf kk ds) := dw_keys.walk X.K g _ d od kk vs ds (fun g' H' x => x.fr _ _ upd_same no) rl hl
        refine dc2_start (Qf := fun H1 => H1 d = some (.frz od (.dK (kk.zip vs))) ∧ Q (.ref L) (upd H1 d (.dK (kk.zip vs)))) (c := ⟨X.K, Wx, io⟩) hio hL Gl wk ov ⟨acc', ρ', ed, fun g' H' x' G' ld => ?_⟩
        have hz' := x'.z d _ hz
        obtain ⟨kk2, vs2, q1, q2, q3, q4, q5⟩ := ld.rep
        exact ⟨x'.fr _ _ upd_same no, fin (x'.unlock hd) (G'.unlock hz') ⟨⟨kk2, vs2, q1, q2, q3, by rw [upd_ne hLd]; exact q4, q5⟩, ld.nz, ld.no⟩ hL'⟩
      · refine .inr (tl σ _ _ L0 vs0 _ hv0 hL0 ha0 ⟨d, o, rfl, .inl ⟨_, hd, fun L hL => ?_⟩⟩)
        have wk : Walk X.K g H (Itk d o (kk.zip vs)) (keysOf kk ds) := dw_keys.walk X.K g _ d o kk vs ds (fun g' H' x => x.fr _ _ hd no) rl hl
        exact dc2_start (Qf := fun H1 => Q (.ref L) H1) (c := ⟨X.K, Wx, io⟩) hio hL G wk ov ⟨acc', ρ', ed, fun g' H' x' G' ld => fin x' G' ld hL⟩
    · rw [if_neg ov] at p; exact p.elim
end

/-! a number in a tuple of numbers -/
def inXT (d : D) : D → Option R
  | .tup ys => match d with
    | .int i => (D.intsOf ys).map fun ns => .val (.bl (decide (i ∈ ns)))
    | _ => none
  | e => inDD d e
def notinXT (d : D) : D → Option R
  | .tup ys => match d with
    | .int i => (D.intsOf ys).map fun ns => .val (.bl (!decide (i ∈ ns)))
    | _ => none
  | e => notinDD d e
@[simp] theorem inXT_lst {d : D} {ys : List D} : inXT d (.lst ys) = inDD d (.lst ys) := rfl
@[simp] theorem inXT_dic {d : D} {ks : List KK} {ys : List D} : inXT d (.dic ks ys) = inDD d (.dic ks ys) := rfl
@[simp] theorem notinXT_lst {d : D} {ys : List D} : notinXT d (.lst ys) = notinDD d (.lst ys) := rfl
@[simp] theorem notinXT_dic {d : D} {ks : List KK} {ys : List D} : notinXT d (.dic ks ys) = notinDD d (.dic ks ys) := rfl
theorem inV_ints {i : Int} {ns : List Int} : inV (.int i) (ns.map V.int) = decide (i ∈ ns) := by
  unfold inV
  induction ns with
  | nil => rfl
  | cons n ns ih =>
    rw [List.map_cons, List.any_cons, ih]
    have e : eqV (V.int n) (V.int i) = decide (i = n) := by
      rw [Bool.eq_iff_iff]
      simp [eqV]
      exact eq_comm
    rw [e, Bool.eq_iff_iff]
    simp
theorem flat_ints {ns : List Int} : (ns.map V.int).all flatV = true := by
  rw [List.all_eq_true]
  intro x hx
  obtain ⟨i, _, rfl⟩ := List.mem_map.mp hx
  rfl
section
variable {X : Cx}
theorem op_inXT (hu : X.A.units + 65 < cLine) : OpR X (compareOp .In) (rO2 X.K inXT) := by
  intro pins s σ H x y v u Q I rx ry ⟨Z, d, e, r, h1, h2, h3, h4, h5⟩
  have old : inDD d e = some r → _ := fun h => op_inD2 hu pins s σ H x y v u Q I rx ry ⟨Z, d, e, r, h1, h2, h3, h, h5⟩
  cases e with
  | tup ys =>
    cases d with
    | int i =>
      obtain ⟨ns, e1, rfl⟩ := Option.map_eq_some_iff.mp h4
      obtain ⟨a, vs, rfl, l, rl⟩ := h3
      cases h2
      have ev := rl.ints e1
      subst ev
      exact op_in_seq pins s σ H _ _ v u Q I rx ry ⟨a, _, rfl, .inr (h1.sqT l), rfl, flat_ints, by
        rw [if_neg Bool.false_ne_true, inV_ints]
        exact q_val h1 h5 repB⟩
    | _ => cases h4
  | _ => exact old h4
theorem op_notinXT (hu : X.A.units + 65 < cLine) : OpR X (compareOp .NotIn) (rO2 X.K notinXT) := by
  intro pins s σ H x y v u Q I rx ry ⟨Z, d, e, r, h1, h2, h3, h4, h5⟩
  have old : notinDD d e = some r → _ := fun h => op_notinD2 hu pins s σ H x y v u Q I rx ry ⟨Z, d, e, r, h1, h2, h3, h, h5⟩
  cases e with
  | tup ys =>
    cases d with
    | int i =>
      obtain ⟨ns, e1, rfl⟩ := Option.map_eq_some_iff.mp h4
      obtain ⟨a, vs, rfl, l, rl⟩ := h3
      cases h2
      have ev := rl.ints e1
      subst ev
      exact op_notIn_seq pins s σ H _ _ v u Q I rx ry ⟨a, _, rfl, .inr (h1.sqT l), rfl, flat_ints, by
        rw [if_pos rfl, inV_ints]
        exact q_val h1 h5 repB⟩
    | _ => cases h4
  | _ => exact old h4
end
theorem inXT_ints {i : Int} {ns : List Int} : inXT (.int i) (.tup (ns.map D.int)) = some (.val (.bl (decide (i ∈ ns)))) := by
  show (D.intsOf (ns.map D.int)).map _ = _
  have e : D.intsOf (ns.map D.int) = some ns := by
    induction ns with
    | nil => rfl
    | cons n ns ih => rw [List.map_cons, D.intsOf, ih]; rfl
  rw [e]; rfl
theorem notinXT_ints {i : Int} {ns : List Int} : notinXT (.int i) (.tup (ns.map D.int)) = some (.val (.bl (!decide (i ∈ ns)))) := by
  show (D.intsOf (ns.map D.int)).map _ = _
  have e : D.intsOf (ns.map D.int) = some ns := by
    induction ns with
    | nil => rfl
    | cons n ns ih => rw [List.map_cons, D.intsOf, ih]; rfl
  rw [e]; rfl

/-! a, b = x, y by way of a pair -/
section
variable {X : Cx} {Wx : WX} {io : List Nat} {h : Rho → Rs (List R)}
theorem t_parT {is : List Nat} {E : Ends} {σ : L2.St} {H : Hp} (q : tSt ⟨X.K, Wx, io⟩ (stPar io is h) E σ H) : tSs ⟨X.K, Wx, io⟩ h σ H fun vs H' => vs.length = is.length ∧ ∀ T, H' T = none → E.nx (setAll σ is vs) (upd H' T (.tup vs)) := by
  obtain ⟨ρ, g, hio, G, q⟩ := q
  refine ⟨ρ, g, hio, G, ?_⟩
  unfold stPar at q
  cases e : h ρ with
  | stuck => rw [e] at q; exact q
  | exc cn ns ds ρ' => rw [e] at q; exact fun dx vs H' g' x' G' => q dx vs σ H' g' x' G'
  | ok rs ρ1 =>
    rw [e] at q
    intro vs H1 g1 x1 G1 r1
    have q : PostS ⟨X.K, Wx, io⟩ g σ H E (if rs.length = is.length then un (storeS io is rs ρ1) else .stuck) := q
    by_cases hl : rs.length = is.length
    · rw [if_pos hl] at q
      refine ⟨by rw [← r1.length]; exact hl, fun T hT => ?_⟩
      rcases storeS_ok (is := is) x1 G1 r1 with e | ⟨ρ', g', e, x', G'⟩
      · rw [hio] at e; rw [e] at q; exact q.elim
      · rw [hio] at e; rw [e] at q
        obtain ⟨nz, no⟩ := fresh_no G' hT
        exact q _ _ g' (x'.put (Classical.byContradiction fun n => x'.fr2 T n hT)) (Rel.updL nz no G')
    · rw [if_neg hl] at q; exact q.elim
theorem SSt_parA {i j : Nat} {x y : Str} {a b : Expr} {px py pt pos : Pos} {kt k2 : Nat} {pt2 : Pos} (hc : X.calm = true) (hN : X.N.Nodup) (hi : X.N[i]? = some x) (hj : X.N[j]? = some y)
    (hx : Loc X.env.scope x) (hy : Loc X.env.scope y) (fx : X.fn x = true ∨ X.env.scope.names.lookup x = some .local) (fy : X.fn y = true ∨ X.env.scope.names.lookup y = some .local) (ha : SSet X Wx io [a, b] h)
    (hs : swapsWithSole [.Tuple [.Name x px, .Name y py] kt pt] (.Tuple [a, b] k2 pt2) pos.line X.env = pure false) (hw : swappedStores [.Tuple [.Name x px, .Name y py] kt pt] (.Tuple [a, b] k2 pt2) X.env = pure none) :
    SSt X Wx io (.Assign [.Tuple [.Name x px, .Name y py] kt pt] (.Tuple [a, b] k2 pt2) pos) (stPar io [i, j] h) :=
  PS.imp (ps_asg (pe_tup ha) (pg_tup hc (pgs_cons (pg_name hN hi hx fx) (pgs_cons (pg_name hN hj hy fy) pgs_nil))) hs hw rfl) fun E σ H q => by
    obtain ⟨ρ, g, hio, G, p⟩ := t_parT q
    refine ⟨ρ, g, hio, G, p.mono (fun rs ρ' vs H' g' _ x' G' r' k => ?_) (fun _ _ _ _ z => z)⟩
    obtain ⟨l, n⟩ := k r'
    match vs, l with
    | [v, w], _ => exact ⟨(by decide : 2 ≤ sizeLine), fun T hT => ⟨T, [v, w], rfl, .inl (.inl upd_same), rfl, v, [w], rfl, w, [], rfl, rfl, n T hT⟩⟩
end
end Spl

set_option maxHeartbeats 2000000
namespace Spl
open PySem PySem.Spec L2
open PyProof.Rows

/-! xs[k] op= e, numbers in a list -/
def rGetI : V → V → Hp → VK → Prop := fun o i H Q => ∃ p xs k n, o = .ref p ∧ i = .int k ∧ H p = some (.lst xs) ∧ 0 ≤ k ∧ xs[k.toNat]? = some (.int n) ∧ Q (.int n) H
theorem get_listI {X : Cx} : PGet X rGetI := by
  intro pins s σ H o i ov iv Q I ro ri ⟨p, xs, k, n, e1, e2, hp, h0, hx, q⟩
  subst e1 e2
  cases ro
  obtain ⟨t, rfl⟩ := ri
  obtain ⟨its, r, pl, hz⟩ := I.list (.of hp)
  obtain ⟨w, ew, rw'⟩ := r.get hx
  have hl := r.length
  have hn := line63
  have hk := (List.getElem?_eq_some_iff.mp hx).1
  exact wpAny_getItem_list pl.isList h0 (by omega) (by simpa using ew) ⟨.int n, H, I, rw', q⟩
def ixI (w : Option W) (k : Int) : Option Int := match w with
  | some (.lst xs) => if 0 ≤ k then (match xs[k.toNat]? with
    | some (.int n) => some n
    | _ => none) else none
  | _ => none
def augZ (b : B) (n m : Int) : Option Int := match augD b (.int n) (.int m) with
  | some (.val (.int z)) => some z
  | _ => none
def stAugIx (i : Nat) (b : B) (fi fe : Rho → Rs R) (ρ : Rho) : Rs Fl := if (look ρ i).isSome = true then (fi ρ).bind fun q ρ1 => (opt (q.int ρ1) ρ1).bind fun k ρ2 => (opt (ixI (look ρ2 i) k) ρ2).bind fun n ρ3 => (fe ρ3).bind fun r ρ4 => (opt (r.int ρ4) ρ4).bind fun m ρ5 => (opt (augZ b n m) ρ5).bind fun z ρ6 => setW lstSet i (.val (.int k)) (.int z) ρ6 else .stuck
theorem PostS.opt_b {α : Type} {c : Ct} {g : Gh} {σ : L2.St} {H : Hp} {E : Ends} {o : Option α} {ρ : Rho} {k : α → Rho → Rs Fl} (p : PostS c g σ H E ((opt o ρ).bind k)) : ∃ a, o = some a ∧ PostS c g σ H E (k a ρ) := by
  cases o with
  | none => exact p.elim
  | some a => exact ⟨a, rfl, p⟩
theorem ixI_some {w : Option W} {k n : Int} (h : ixI w k = some n) : ∃ xs, w = some (.lst xs) ∧ 0 ≤ k ∧ xs[k.toNat]? = some (.int n) := by
  unfold ixI at h
  split at h
  · rename_i xs
    split at h
    · rename_i h0
      split at h
      · rename_i m hm
        cases h
        exact ⟨xs, rfl, h0, hm⟩
      · cases h
    · cases h
  · cases h
theorem augZ_some {b : B} {n m z : Int} (h : augZ b n m = some z) : augD b (.int n) (.int m) = some (.val (.int z)) := by
  unfold augZ at h
  split at h
  · rename_i e
    cases h
    exact e
  · cases h
section
variable {X : Cx} {Wx : WX} {io : List Nat} {o ix e : Expr} {fi fe : Rho → Rs R} {pos tpos : Pos} {op : Operator} {b : B}
theorem SSt_augIx {i : Nat} (ho : PE X o (tVar i)) (hi : SE X Wx io ix fi) (he : SE X Wx io e fe) (hp : OpR X (inplaceOp op) (rO2 X.K (augD b)))
    (ha : ∀ ov iv new, augStore ix ov iv new = (do holding [new, ov, iv] (setItem ov iv new); release [new, ov, iv] []; pure .next)) :
    SSt X Wx io (.AugAssign (.Subscript o ix tpos) op e pos) (stAugIx i b fi fe) := PS.imp (ps_augS (tip := rO2 X.K (augD b)) ho hi get_listI he hp set_list ha) fun D σ H ⟨ρ, g, hio, G, q⟩ => by
  unfold stAugIx at q
  by_cases hk : (look ρ i).isSome = true
  · rw [if_pos hk] at q
    obtain ⟨w0, e0⟩ := Option.isSome_iff_exists.mp hk
    obtain ⟨v0, hv0, _⟩ := G.at_ i w0 e0
    refine ⟨v0, hv0, ?_⟩
    refine tS.stmt (c := ⟨X.K, Wx, io⟩) hio (.refl g H) G q fun s ρ2 g2 u H2 _ x2 G2 r2 p2 => ?_
    obtain ⟨k, hk, p3⟩ := PostS.opt_b p2
    obtain ⟨n, hn, p4⟩ := PostS.opt_b p3
    have eu := R.int_v (c := ⟨X.K, Wx, io⟩) G2 r2 hk
    subst eu
    obtain ⟨xs, e1, h0, hx⟩ := ixI_some hn
    obtain ⟨v1, hv1, rw1⟩ := G2.at_ i _ e1
    rw [hv0] at hv1
    cases hv1
    obtain ⟨a, us, rfl, ea, hL, rl⟩ := rw1
    obtain ⟨vn, hvn, rn⟩ := rl.get hx
    cases rn
    refine ⟨a, us, k, n, rfl, rfl, hL, h0, hvn, ?_⟩
    refine tS.stmt (c := ⟨X.K, Wx, io⟩) hio x2 G2 p4 fun t ρ3 g3 u3 H3 x23 x3 G3 r3 p5 => ?_
    obtain ⟨m, hm, p6⟩ := PostS.opt_b p5
    obtain ⟨z, hz, p7⟩ := PostS.opt_b p6
    have eu := R.int_v (c := ⟨X.K, Wx, io⟩) G3 r3 hm
    subst eu
    refine ⟨g3.Z, .int n, .int m, .val (.int z), G3.sub, rfl, rfl, augZ_some hz, fun v' H' Z' nw rn => ?_⟩
    obtain ⟨ex, G'⟩ := nw.ext G3
    have rz := rn.r G3 nw
    have ez : v' = .int z := rz
    subst ez
    unfold setW at p7
    cases e3 : look ρ3 i with
    | none => rw [e3] at p7; exact p7.elim
    | some w =>
      rw [e3] at p7
      have p7 : PostS ⟨X.K, Wx, io⟩ g σ H D (match lstSet w (.int k) (.int z) with | some w' => .ok .nx (ρ3.set i (some w')) | none => .stuck) := p7
      cases eo : lstSet w (.int k) (.int z) with
      | none => rw [eo] at p7; exact p7.elim
      | some w' =>
        rw [eo] at p7
        obtain ⟨v3, hv3, rw3⟩ := G'.at_ i w e3
        rw [hv0] at hv3
        cases hv3
        rcases rw3.own_of with ⟨d', rfl, _⟩ | ⟨c, hc⟩
        · exact absurd rfl (set_lstOk.nd _ _ _ (by rw [eo]; simp) d')
        · rw [hc] at rw3
          have ev := rw3.own_some.1
          cases ev
          refine set_lstOk.run X.K _ H' w w' (.int k) (.int z) a (.int k) (.int z) _ eo G'.sub rw3 rfl repI (fun o' r5 => ?_)
          obtain ⟨G5, x5⟩ := G'.write hc hv0 r5
          exact p7 _ _ _ ((x3.trans ex).trans x5) G5
  · rw [if_neg hk] at q; exact q.elim
end
end Spl

namespace Spl
open PySem PySem.Spec L2
open PyProof.Rows

/-! plain laws: what an evaluator answers -/
def Ok {α : Type} (x : Rs α) (P : α → Rho → Prop) : Prop := ∃ a ρ, x = .ok a ρ ∧ P a ρ
@[simp] theorem Ok_ok {α : Type} {a : α} {ρ : Rho} {P : α → Rho → Prop} : Ok (.ok a ρ) P ↔ P a ρ := ⟨fun ⟨_, _, e, h⟩ => by cases e; exact h, fun h => ⟨_, _, rfl, h⟩⟩
@[simp] theorem Ok_stuck {α : Type} {P : α → Rho → Prop} : Ok (.stuck : Rs α) P ↔ False := ⟨fun ⟨_, _, e, _⟩ => (nomatch e), fun h => False.elim h⟩
@[simp] theorem Ok_bind {α β : Type} {x : Rs α} {f : α → Rho → Rs β} {P : β → Rho → Prop} : Ok (x.bind f) P ↔ Ok x fun a ρ => Ok (f a ρ) P := by
  constructor
  · rintro ⟨b, ρ', e, h⟩
    cases x with
    | ok a ρ => exact ⟨a, ρ, rfl, b, ρ', e, h⟩
    | exc c n d r => exact nomatch e
    | stuck => exact nomatch e
  · rintro ⟨a, ρ, rfl, h⟩
    exact h
theorem Ok.mono {α : Type} {x : Rs α} {P Q : α → Rho → Prop} (h : Ok x P) (i : ∀ a ρ, P a ρ → Q a ρ) : Ok x Q := let ⟨a, ρ, e, p⟩ := h; ⟨a, ρ, e, i a ρ p⟩
@[simp] theorem bind_ok {α β : Type} {a : α} {ρ : Rho} {f : α → Rho → Rs β} : (Rs.ok a ρ).bind f = f a ρ := rfl
@[simp] theorem bind_stuck {α β : Type} {f : α → Rho → Rs β} : (Rs.stuck).bind f = .stuck := rfl
@[simp] theorem nox_ok' {α : Type} {a : α} {ρ : Rho} : nox (.ok a ρ) = .ok a ρ := rfl
@[simp] theorem Ok_nox {α : Type} {x : Rs α} {P : α → Rho → Prop} : Ok (nox x) P ↔ Ok x P := by
  cases x <;> simp [nox, Ok]
@[simp] theorem opt_some {α : Type} {a : α} {ρ : Rho} : opt (some a) ρ = .ok a ρ := rfl
@[simp] theorem opt_none {α : Type} {ρ : Rho} : opt (none : Option α) ρ = .stuck := rfl
@[simp] theorem look_0 {w : Option W} {ρ : Rho} : look (w :: ρ) 0 = w := rfl
@[simp] theorem look_s {w : Option W} {ρ : Rho} {n : Nat} : look (w :: ρ) (n + 1) = look ρ n := rfl
@[simp] theorem view_val {ρ : Rho} {d : D} : R.view ρ (.val d) = some d := rfl
@[simp] theorem view_tmp {ρ : Rho} {w : W} : R.view ρ (.tmp w) = some w.view := rfl
@[simp] theorem view_place {ρ : Rho} {i : Nat} : R.view ρ (.place i) = (look ρ i).map W.view := rfl
@[simp] theorem wv_dat {d : D} : W.view (.dat d) = d := rfl
@[simp] theorem wv_lst {d : List D} : W.view (.lst d) = .lst d := rfl
@[simp] theorem wv_dic {k : List KK} {d : List D} : W.view (.dic k d) = .dic k d := rfl
def asR (i : Nat) : Option W → Rho → Rs R
  | some (.dat d), ρ => .ok (.val d) ρ
  | some _, ρ => .ok (.place i) ρ
  | none, _ => .stuck
@[simp] theorem evV_eq {i : Nat} {ρ : Rho} : evV i ρ = asR i (look ρ i) ρ := by
  unfold evV
  rcases look ρ i with _ | w
  · rfl
  · cases w <;> rfl
@[simp] theorem asR_dat {i : Nat} {d : D} {ρ : Rho} : asR i (some (.dat d)) ρ = .ok (.val d) ρ := rfl
@[simp] theorem asR_lst {i : Nat} {d : List D} {ρ : Rho} : asR i (some (.lst d)) ρ = .ok (.place i) ρ := rfl
@[simp] theorem asR_dic {i : Nat} {k : List KK} {d : List D} {ρ : Rho} : asR i (some (.dic k d)) ρ = .ok (.place i) ρ := rfl
@[simp] theorem evC_eq {d : D} {ρ : Rho} : evC d ρ = .ok (.val d) ρ := rfl
@[simp] theorem ev1_eq {o : D → Option R} {f : Rho → Rs R} {ρ : Rho} : ev1 o f ρ = (f ρ).bind fun r ρ1 => opt ((r.view ρ1).bind o) ρ1 := rfl
@[simp] theorem ev2_eq {o : D → D → Option R} {f h : Rho → Rs R} {ρ : Rho} : ev2 o f h ρ = (f ρ).bind fun r ρ1 => (h ρ1).bind fun q ρ2 => opt ((r.view ρ2).bind fun d => (q.view ρ2).bind fun e => o d e) ρ2 := rfl
@[simp] theorem bool_val {ρ : Rho} {b : Bool} : R.bool ρ (.val (.bl b)) = some b := rfl
@[simp] theorem int_val {ρ : Rho} {b : Int} : R.int ρ (.val (.int b)) = some b := rfl
@[simp] theorem evAnd_eq {f h : Rho → Rs R} {ρ : Rho} : evAnd f h ρ = (f ρ).bind fun r ρ1 => (opt (r.bool ρ1) ρ1).bind fun b ρ2 => if b = true then h ρ2 else .ok (.val (.bl false)) ρ2 := rfl
@[simp] theorem evOr_eq {f h : Rho → Rs R} {ρ : Rho} : evOr f h ρ = (f ρ).bind fun r ρ1 => (opt (r.bool ρ1) ρ1).bind fun b ρ2 => if b = true then .ok (.val (.bl true)) ρ2 else h ρ2 := rfl
@[simp] theorem evNot_eq {f : Rho → Rs R} {ρ : Rho} : evNot f ρ = (f ρ).bind fun r ρ1 => (opt (r.bool ρ1) ρ1).bind fun b ρ2 => .ok (.val (.bl (!b))) ρ2 := rfl
@[simp] theorem evIte_eq {c : Rho → Rs Bool} {f h : Rho → Rs R} {ρ : Rho} : evIte c f h ρ = (c ρ).bind fun b ρ1 => if b = true then f ρ1 else h ρ1 := rfl
@[simp] theorem teAnd_eq {f h : Rho → Rs Bool} {ρ : Rho} : teAnd f h ρ = (f ρ).bind fun b ρ2 => if b = true then h ρ2 else .ok false ρ2 := rfl
@[simp] theorem teOr_eq {f h : Rho → Rs Bool} {ρ : Rho} : teOr f h ρ = (f ρ).bind fun b ρ2 => if b = true then .ok true ρ2 else h ρ2 := rfl
@[simp] theorem teNot_eq {f : Rho → Rs Bool} {ρ : Rho} : teNot f ρ = (f ρ).bind fun b ρ2 => .ok (!b) ρ2 := rfl
@[simp] theorem asT_eq {f : Rho → Rs R} {ρ : Rho} : asT f ρ = (f ρ).bind fun r ρ1 => opt (r.bool ρ1) ρ1 := rfl
@[simp] theorem te_eq {f : Rho → Rs R} {ρ : Rho} : te f ρ = (f ρ).bind fun r ρ1 => opt ((r.view ρ1).bind D.truth) ρ1 := rfl
@[simp] theorem truth_bl {b : Bool} : D.truth (.bl b) = some b := rfl
@[simp] theorem ev3_eq {o o' : D → D → Option R} {f h k : Rho → Rs R} {ρ : Rho} : ev3 o o' f h k ρ = (f ρ).bind fun r ρ1 => (h ρ1).bind fun q ρ2 => (opt ((r.view ρ2).bind fun d => (q.view ρ2).bind fun e => o d e) ρ2).bind fun y ρ3 => (opt (y.bool ρ3) ρ3).bind fun b ρ4 => if b = true then (k ρ4).bind fun z ρ5 => opt ((q.view ρ5).bind fun d => (z.view ρ5).bind fun e => o' d e) ρ5 else .ok (.val (.bl false)) ρ4 := rfl
@[simp] theorem evNil_eq {ρ : Rho} : evNil ρ = .ok [] ρ := rfl
@[simp] theorem evCons_eq {io : List Nat} {f : Rho → Rs R} {h : Rho → Rs (List D)} {ρ : Rho} : evCons io f h ρ = (f ρ).bind fun r ρ1 => (freeze io r ρ1).bind fun d ρ2 => (h ρ2).bind fun ds ρ3 => .ok (d :: ds) ρ3 := rfl
@[simp] theorem frz_val {io : List Nat} {d : D} {ρ : Rho} : freeze io (.val d) ρ = .ok d ρ := rfl
@[simp] theorem frz_tmp {io : List Nat} {w : W} {ρ : Rho} : freeze io (.tmp w) ρ = .ok w.view ρ := rfl
@[simp] theorem frz_place {io : List Nat} {i : Nat} {ρ : Rho} : freeze io (.place i) ρ = frzW io i ρ (look ρ i) := rfl
@[simp] theorem frzW_dat {io : List Nat} {i : Nat} {ρ : Rho} {d : D} : frzW io i ρ (some (.dat d)) = .ok d ρ := rfl
@[simp] theorem frzW_lst {io : List Nat} {i : Nat} {ρ : Rho} {xs : List D} : frzW io i ρ (some (.lst xs)) = if i ∈ io then .stuck else .ok (.lst xs) (ρ.set i (some (.dat (.lst xs)))) := rfl
@[simp] theorem frzW_dic {io : List Nat} {i : Nat} {ρ : Rho} {ks : List KK} {xs : List D} : frzW io i ρ (some (.dic ks xs)) = if i ∈ io then .stuck else .ok (.dic ks xs) (ρ.set i (some (.dat (.dic ks xs)))) := rfl
@[simp] theorem evStar_eq {f : Rho → Rs R} {h : Rho → Rs (List D)} {ρ : Rho} : evStar f h ρ = (f ρ).bind fun r ρ1 => (opt ((r.view ρ1).bind D.items) ρ1).bind fun xs ρ2 => (h ρ2).bind fun ds ρ3 => .ok (xs ++ ds) ρ3 := rfl
@[simp] theorem items_tup {xs : List D} : D.items (.tup xs) = some xs := rfl
@[simp] theorem items_lst {xs : List D} : D.items (.lst xs) = some xs := rfl
@[simp] theorem items_scr {xs : List Int} : D.items (.scr xs) = some (xs.map D.int) := rfl
@[simp] theorem evTup_eq {h : Rho → Rs (List D)} {ρ : Rho} : evTup h ρ = (h ρ).bind fun ds ρ1 => if ds.length ≤ sizeLine then .ok (.val (.tup ds)) ρ1 else .stuck := rfl
@[simp] theorem evLst_eq {h : Rho → Rs (List D)} {ρ : Rho} : evLst h ρ = (h ρ).bind fun ds ρ1 => if ds.length ≤ sizeLine then .ok (.tmp (.lst ds)) ρ1 else .stuck := rfl
@[simp] theorem evNoP_eq {ρ : Rho} : evNoP ρ = .ok none ρ := rfl
@[simp] theorem evP_eq {f : Rho → Rs R} {ρ : Rho} : evP f ρ = (f ρ).bind fun r ρ1 => (opt (r.int ρ1) ρ1).bind fun i ρ2 => .ok (some i) ρ2 := rfl
@[simp] theorem evSl_eq {f : Rho → Rs R} {l h : Rho → Rs (Option Int)} {ρ : Rho} : evSl f l h ρ = (f ρ).bind fun r ρ1 => (l ρ1).bind fun lo ρ2 => (h ρ2).bind fun hi ρ3 => opt ((r.view ρ3).bind (slD lo hi)) ρ3 := rfl
@[simp] theorem arNil_eq {ρ : Rho} : arNil ρ = .ok [] ρ := rfl
@[simp] theorem arCons_eq {f : Rho → Rs R} {h : Rho → Rs (List R)} {ρ : Rho} : arCons f h ρ = (f ρ).bind fun r ρ1 => (h ρ1).bind fun rs ρ2 => .ok (r :: rs) ρ2 := rfl
@[simp] theorem views_nil {ρ : Rho} : views ρ [] = some [] := rfl
@[simp] theorem views_cons {ρ : Rho} {r : R} {rs : List R} : views ρ (r :: rs) = (r.view ρ).bind fun d => (views ρ rs).map (d :: ·) := rfl
@[simp] theorem evB_eq {o : List D → Option R} {h : Rho → Rs (List R)} {ρ : Rho} : evB o h ρ = (h ρ).bind fun rs ρ1 => opt ((views ρ1 rs).bind o) ρ1 := rfl
@[simp] theorem op1_eq {o : D → Option R} {d : D} : op1 o [d] = o d := rfl
@[simp] theorem op2_eq {o : D → D → Option R} {d e : D} : op2 o [d, e] = o d e := rfl
@[simp] theorem aNil_eq {ρ : Rho} : aNil ρ = .ok [] ρ := rfl
@[simp] theorem aDat_eq {io : List Nat} {f : Rho → Rs R} {h : Rho → Rs (List A)} {ρ : Rho} : aDat io f h ρ = (f ρ).bind fun r ρ1 => (freeze io r ρ1).bind fun d ρ2 => (h ρ2).bind fun as ρ3 => .ok (.dat d :: as) ρ3 := rfl
@[simp] theorem aOwn_eq {f : Rho → Rs R} {h : Rho → Rs (List A)} {ρ : Rho} : aOwn f h ρ = (f ρ).bind fun r ρ1 => (opt r.at ρ1).bind fun i ρ2 => (h ρ2).bind fun as ρ3 => .ok (.own i :: as) ρ3 := rfl
@[simp] theorem at_place {i : Nat} : R.at (.place i) = some i := rfl
/-- what a call gives back to the names -/
def ofFR (n : Nat) (as : List A) (ρ : Rho) : FR → Rs R
  | .ret w io => if n ≤ io.length then .ok (.of w) (backW as io ρ) else .stuck
  | .exc c ns ds io => if n ≤ io.length then .exc c ns ds (backW as io ρ) else .stuck
  | .stuck => .stuck
theorem appF_eq {F : Fn} {as : List A} {ρ : Rho} {ws : List W} (h1 : (owns as).Nodup) (h2 : argWs ρ as = some ws) : appF F as ρ = ofFR as.length as ρ (F ws) := by
  unfold appF
  rw [if_pos h1, h2]
  show (match F ws with | .ret w io => _ | .exc c ns ds io => _ | .stuck => _) = ofFR as.length as ρ (F ws)
  cases F ws <;> rfl
@[simp] theorem evCall_eq {F : Fn} {dD : List D} {h : Rho → Rs (List A)} {ρ : Rho} : evCall F dD h ρ = (h ρ).bind fun as ρ1 => appF F (as ++ A.dats dD) ρ1 := rfl
@[simp] theorem dats_nil : A.dats [] = [] := rfl
@[simp] theorem appF_0 {F : Fn} {ρ : Rho} : appF F [] ρ = ofFR 0 [] ρ (F []) := rfl
@[simp] theorem appF_1 {F : Fn} {ρ : Rho} {d : D} : appF F [.dat d] ρ = ofFR 1 [.dat d] ρ (F [.dat d]) := rfl
@[simp] theorem appF_2 {F : Fn} {ρ : Rho} {d e : D} : appF F [.dat d, .dat e] ρ = ofFR 2 [.dat d, .dat e] ρ (F [.dat d, .dat e]) := rfl
@[simp] theorem appF_3 {F : Fn} {ρ : Rho} {d e f : D} : appF F [.dat d, .dat e, .dat f] ρ = ofFR 3 [.dat d, .dat e, .dat f] ρ (F [.dat d, .dat e, .dat f]) := rfl
@[simp] theorem appF_4 {F : Fn} {ρ : Rho} {d e f k : D} : appF F [.dat d, .dat e, .dat f, .dat k] ρ = ofFR 4 [.dat d, .dat e, .dat f, .dat k] ρ (F [.dat d, .dat e, .dat f, .dat k]) := rfl
@[simp] theorem of_dat {d : D} : R.of (.dat d) = .val d := rfl
@[simp] theorem of_lst {d : List D} : R.of (.lst d) = .tmp (.lst d) := rfl
@[simp] theorem of_dic {k : List KK} {d : List D} : R.of (.dic k d) = .tmp (.dic k d) := rfl
/-- a function of data answers -/
def Ret (F : Fn) (ws : List W) (P : W → List W → Prop) : Prop := ∃ w io, F ws = .ret w io ∧ io.length = ws.length ∧ P w io
/-- … a data answer, all arguments data -/
def Fun (F : Fn) (ds : List D) (d : D) : Prop := ∃ io, F (ds.map W.dat) = .ret (.dat d) io ∧ io.length = ds.length
theorem backW_dat : ∀ {ds : List D} {io : List W} {ρ : Rho}, backW (ds.map A.dat) io ρ = ρ
  | [], io, ρ => by cases io <;> rfl
  | d :: ds, [], ρ => rfl
  | d :: ds, w :: io, ρ => by
    show backW (ds.map A.dat) io ρ = ρ
    exact backW_dat
theorem owns_dat : ∀ {ds : List D}, owns (ds.map A.dat) = []
  | [] => rfl
  | d :: ds => by show owns (ds.map A.dat) = []; exact owns_dat
theorem argWs_dat {ρ : Rho} : ∀ {ds : List D}, argWs ρ (ds.map A.dat) = some (ds.map W.dat)
  | [] => rfl
  | d :: ds => by
    show (some (W.dat d)).bind (fun w => (argWs ρ (ds.map A.dat)).map (w :: ·)) = _
    rw [argWs_dat]; rfl
theorem Fun.app {F : Fn} {ds : List D} {d : D} (h : Fun F ds d) {ρ : Rho} {as : List A} (e : as = ds.map A.dat) : appF F as ρ = .ok (.val d) ρ := by
  subst e
  obtain ⟨io, e, l⟩ := h
  rw [appF_eq (ws := ds.map W.dat) (by rw [owns_dat]; exact List.nodup_nil) argWs_dat, e]
  show (if (ds.map A.dat).length ≤ io.length then _ else _) = _
  rw [if_pos (by rw [List.length_map, l]; exact Nat.le_refl _), backW_dat]
  rfl
theorem Fun.a0 {F : Fn} {d : D} {ρ : Rho} (h : Fun F [] d) : appF F [] ρ = .ok (.val d) ρ := h.app rfl
theorem Fun.a1 {F : Fn} {d a : D} {ρ : Rho} (h : Fun F [a] d) : ofFR 1 [.dat a] ρ (F [.dat a]) = .ok (.val d) ρ := h.app (ρ := ρ) rfl
theorem Fun.a2 {F : Fn} {d a b : D} {ρ : Rho} (h : Fun F [a, b] d) : ofFR 2 [.dat a, .dat b] ρ (F [.dat a, .dat b]) = .ok (.val d) ρ := h.app (ρ := ρ) rfl
theorem Fun.a3 {F : Fn} {d a b c : D} {ρ : Rho} (h : Fun F [a, b, c] d) : ofFR 3 [.dat a, .dat b, .dat c] ρ (F [.dat a, .dat b, .dat c]) = .ok (.val d) ρ := h.app (ρ := ρ) rfl
theorem iosOf_len {np : Nat} {ρ : Rho} : (iosOf np ρ).length = np := by unfold iosOf; simp
/-- a function whose parameters are all data -/
theorem Fun.of {np nn : Nat} {fb : Rho → Rs Fl} {ds : List D} {d : D} (h1 : ds.length = np) (h3 : Ok (fb (ds.map (fun d => some (.dat d)) ++ List.replicate (nn - np) none)) fun fl ρ => ∃ r, fl = .rt r ∧ outW [] ρ r = some (.dat d)) : Fun (fnOf [] np nn fb) ds d := by
  obtain ⟨fl, ρ, e, r, rfl, o⟩ := h3
  refine ⟨iosOf np ρ, ?_, by rw [iosOf_len, h1]⟩
  unfold fnOf
  have hin : inOk [] (ds.map W.dat) = true := by
    unfold inOk
    rw [List.all_eq_true]
    intro i hi
    have hi : i < ds.length := by simpa using List.mem_range.mp hi
    simp [hi, isDat]
  rw [if_pos ⟨by rw [List.length_map, h1], hin⟩]
  have e2 : (ds.map W.dat).map some = ds.map (fun d => some (W.dat d)) := by rw [List.map_map]; rfl
  rw [e2, e]
  show (match outW [] ρ r with | some w => FR.ret w (iosOf np ρ) | none => .stuck) = _
  rw [o]
theorem inOk_dat {ds : List D} : inOk [] (ds.map W.dat) = true := by
  unfold inOk
  rw [List.all_eq_true]
  intro i hi
  have hi : i < ds.length := by simpa using List.mem_range.mp hi
  simp [hi, isDat]
theorem Fun.ofN {np nn : Nat} {fb : Rho → Rs Fl} {ds : List D} (h1 : ds.length = np) (h3 : Ok (fb (ds.map (fun d => some (.dat d)) ++ List.replicate (nn - np) none)) fun fl ρ => fl = .nx) : Fun (fnOf [] np nn fb) ds .non := by
  obtain ⟨fl, ρ, e, rfl⟩ := h3
  refine ⟨iosOf np ρ, ?_, by rw [iosOf_len, h1]⟩
  unfold fnOf
  rw [if_pos ⟨by rw [List.length_map, h1], inOk_dat⟩]
  have e2 : (ds.map W.dat).map some = ds.map (fun d => some (W.dat d)) := by rw [List.map_map]; rfl
  rw [e2, e]
/-- a function with changed arguments: what it answers, and what they become -/
theorem Ret.of {io : List Nat} {np nn : Nat} {fb : Rho → Rs Fl} {ws : List W} {P : W → List W → Prop} (h1 : ws.length = np) (h2 : inOk io ws = true)
    (h3 : Ok (fb (ws.map some ++ List.replicate (nn - np) none)) fun fl ρ => ∃ w, (∃ r, fl = .rt r ∧ outW io ρ r = some w) ∧ P w (iosOf np ρ)) : Ret (fnOf io np nn fb) ws P := by
  obtain ⟨fl, ρ, e, w, ⟨r, rfl, o⟩, p⟩ := h3
  refine ⟨w, iosOf np ρ, ?_, by rw [iosOf_len, h1], p⟩
  unfold fnOf
  rw [if_pos ⟨h1, h2⟩, e]
  show (match outW io ρ r with | some w => FR.ret w (iosOf np ρ) | none => .stuck) = _
  rw [o]
theorem Ret.mono {F : Fn} {ws : List W} {P Q : W → List W → Prop} (h : Ret F ws P) (i : ∀ w io, P w io → Q w io) : Ret F ws Q := let ⟨w, io, e, l, p⟩ := h; ⟨w, io, e, l, i w io p⟩
/-- a call of it -/
theorem Ret.ok {F : Fn} {ws : List W} {P : W → List W → Prop} {n : Nat} {as : List A} {ρ : Rho} {Q : R → Rho → Prop} (h : Ret F ws P) (hn : n ≤ ws.length) (hq : ∀ w io, io.length = ws.length → P w io → Q (.of w) (backW as io ρ)) : Ok (ofFR n as ρ (F ws)) Q := by
  obtain ⟨w, io, e, l, p⟩ := h
  rw [e]
  show Ok (if n ≤ io.length then _ else _) Q
  rw [if_pos (by omega)]
  exact Ok_ok.mpr (hq w io l p)
@[simp] theorem out_val {io : List Nat} {ρ : Rho} {d : D} : outW io ρ (.val d) = some (.dat d) := rfl
@[simp] theorem out_tmp {io : List Nat} {ρ : Rho} {w : W} : outW io ρ (.tmp w) = some w := rfl
@[simp] theorem settle_val {io : List Nat} {d : D} {ρ : Rho} : settle io (.val d) ρ = .ok (.val d) ρ := rfl
@[simp] theorem settle_tmp {io : List Nat} {w : W} {ρ : Rho} : settle io (.tmp w) ρ = .ok (.tmp w) ρ := rfl
@[simp] theorem settle_place {io : List Nat} {i : Nat} {ρ : Rho} : settle io (.place i) ρ = (frzW io i ρ (look ρ i)).bind fun d ρ1 => .ok (.val d) ρ1 := rfl
@[simp] theorem seCons_eq {io : List Nat} {f : Rho → Rs R} {h : Rho → Rs (List R)} {ρ : Rho} : seCons io f h ρ = (f ρ).bind fun r ρ1 => (settle io r ρ1).bind fun r' ρ2 => (h ρ2).bind fun rs ρ3 => .ok (r' :: rs) ρ3 := rfl
@[simp] theorem storeS_nil {io : List Nat} {ρ : Rho} : storeS io [] [] ρ = .ok () ρ := rfl
@[simp] theorem storeS_cons {io : List Nat} {i : Nat} {is : List Nat} {r : R} {rs : List R} {ρ : Rho} : storeS io (i :: is) (r :: rs) ρ = (store io i r ρ).bind fun _ ρ1 => storeS io is rs ρ1 := rfl
@[simp] theorem stPar_eq {io is : List Nat} {h : Rho → Rs (List R)} {ρ : Rho} : stPar io is h ρ = (h ρ).bind fun rs ρ1 => if rs.length = is.length then un (storeS io is rs ρ1) else .stuck := rfl
def mutW (i : Nat) (o : W → List D → Option (W × D)) (ds : List D) (ρ : Rho) : Option W → Rs R
  | some w => match o w ds with
    | some (w', d) => .ok (.val d) (ρ.set i (some w'))
    | none => .stuck
  | none => .stuck
@[simp] theorem evMut_eq {i : Nat} {k : W → Bool} {o : W → List D → Option (W × D)} {h : Rho → Rs (List D)} {ρ : Rho} : evMut i k o h ρ = if (look ρ i).any k = true then (h ρ).bind fun ds ρ1 => mutW i o ds ρ1 (look ρ1 i) else .stuck := by
  unfold evMut
  congr 2
def mutR (i : Nat) (ρ : Rho) : Option (W × D) → Rs R
  | some (w', d) => .ok (.val d) (ρ.set i (some w'))
  | none => .stuck
@[simp] theorem mutW_some {i : Nat} {o : W → List D → Option (W × D)} {ds : List D} {ρ : Rho} {w : W} : mutW i o ds ρ (some w) = mutR i ρ (o w ds) := rfl
@[simp] theorem mutR_some {i : Nat} {ρ : Rho} {w : W} {d : D} : mutR i ρ (some (w, d)) = .ok (.val d) (ρ.set i (some w)) := rfl
@[simp] theorem isLst_lst {xs : List D} : W.isLst (.lst xs) = true := rfl
def setK (i : Nat) (ρ : Rho) : Option W → Rs Fl
  | some w' => .ok .nx (ρ.set i (some w'))
  | none => .stuck
def setM (o : W → D → D → Option W) (i : Nat) (d : D) (ρ : Rho) : Option W → Option D → Rs Fl
  | some w, some x => setK i ρ (o w x d)
  | _, _ => .stuck
@[simp] theorem setM_some {o : W → D → D → Option W} {i : Nat} {d x : D} {ρ : Rho} {w : W} : setM o i d ρ (some w) (some x) = setK i ρ (o w x d) := rfl
@[simp] theorem setK_some {i : Nat} {ρ : Rho} {w : W} : setK i ρ (some w) = .ok .nx (ρ.set i (some w)) := rfl
@[simp] theorem setW_eq {o : W → D → D → Option W} {i : Nat} {r : R} {d : D} {ρ : Rho} : setW o i r d ρ = setM o i d ρ (look ρ i) (r.view ρ) := by
  unfold setW
  cases look ρ i with
  | none => rfl
  | some w =>
    cases r.view ρ with
    | none => rfl
    | some x =>
      show (match o w x d with | some w' => _ | none => _) = setK i ρ (o w x d)
      cases o w x d <;> rfl
@[simp] theorem stSetIx_eq {io : List Nat} {i : Nat} {o : W → D → D → Option W} {fv fi : Rho → Rs R} {ρ : Rho} : stSetIx io i o fv fi ρ = (fv ρ).bind fun r ρ1 => (freeze io r ρ1).bind fun d ρ2 => if (look ρ2 i).isSome = true then (fi ρ2).bind fun q ρ3 => setW o i q d ρ3 else .stuck := rfl
/-! statements -/
@[simp] theorem stNx_eq {ρ : Rho} : stNx ρ = .ok .nx ρ := rfl
def goOn (h : Rho → Rs Fl) : Fl → Rho → Rs Fl
  | .nx, ρ => h ρ
  | o, ρ => .ok o ρ
@[simp] theorem goOn_nx {h : Rho → Rs Fl} {ρ : Rho} : goOn h .nx ρ = h ρ := rfl
@[simp] theorem goOn_rt {h : Rho → Rs Fl} {ρ : Rho} {r : R} : goOn h (.rt r) ρ = .ok (.rt r) ρ := rfl
@[simp] theorem goOn_ct {h : Rho → Rs Fl} {ρ : Rho} : goOn h .ct ρ = .ok .ct ρ := rfl
@[simp] theorem goOn_bk {h : Rho → Rs Fl} {ρ : Rho} : goOn h .bk ρ = .ok .bk ρ := rfl
@[simp] theorem stSeq_eq {f h : Rho → Rs Fl} {ρ : Rho} : stSeq f h ρ = (f ρ).bind (goOn h) := by
  unfold stSeq
  congr 1
  funext fl ρ1
  cases fl <;> rfl
@[simp] theorem stExpr_eq {f : Rho → Rs R} {ρ : Rho} : stExpr f ρ = (f ρ).bind fun _ ρ1 => .ok .nx ρ1 := rfl
@[simp] theorem stRet_eq {f : Rho → Rs R} {ρ : Rho} : stRet f ρ = (f ρ).bind fun r ρ1 => .ok (.rt r) ρ1 := rfl
@[simp] theorem stIf_eq {p : Rho → Rs Bool} {f h : Rho → Rs Fl} {ρ : Rho} : stIf p f h ρ = (p ρ).bind fun b ρ1 => if b = true then f ρ1 else h ρ1 := rfl
@[simp] theorem un_eq {x : Rs Unit} : un x = x.bind fun _ ρ => .ok .nx ρ := rfl
@[simp] theorem stSet_eq {io : List Nat} {i : Nat} {f : Rho → Rs R} {ρ : Rho} : stSet io i f ρ = (f ρ).bind fun r ρ1 => un (store io i r ρ1) := rfl
@[simp] theorem store_val {io : List Nat} {i : Nat} {d : D} {ρ : Rho} : store io i (.val d) ρ = putW io i (.dat d) ρ := rfl
@[simp] theorem store_tmp {io : List Nat} {i : Nat} {w : W} {ρ : Rho} : store io i (.tmp w) ρ = putW io i w ρ := rfl
@[simp] theorem store_place {io : List Nat} {i j : Nat} {ρ : Rho} : store io i (.place j) ρ = (frzW io j ρ (look ρ j)).bind fun d ρ1 => putW io i (.dat d) ρ1 := rfl
@[simp] theorem putW_eq {io : List Nat} {i : Nat} {w : W} {ρ : Rho} : putW io i w ρ = if i < ρ.length ∧ i ∉ io then .ok () (ρ.set i (some w)) else .stuck := rfl
@[simp] theorem tgName_eq {io : List Nat} {i : Nat} {d : D} {ρ : Rho} : tgName io i d ρ = putW io i (.dat d) ρ := rfl
@[simp] theorem tgNil_eq {ρ : Rho} : tgNil [] ρ = .ok () ρ := rfl
@[simp] theorem tgCons_eq {f : D → Rho → Rs Unit} {h : List D → Rho → Rs Unit} {d : D} {ds : List D} {ρ : Rho} : tgCons f h (d :: ds) ρ = (f d ρ).bind fun _ ρ1 => h ds ρ1 := rfl
@[simp] theorem tgTup_eq {n : Nat} {h : List D → Rho → Rs Unit} {ds : List D} {ρ : Rho} : tgTup n h (.tup ds) ρ = if ds.length = n then h ds ρ else .stuck := rfl
@[simp] theorem stAsg_eq {io : List Nat} {f : D → Rho → Rs Unit} {q : Rho → Rs R} {ρ : Rho} : stAsg io f q ρ = (q ρ).bind fun r ρ1 => (freeze io r ρ1).bind fun d ρ2 => un (f d ρ2) := rfl
@[simp] theorem itSeq_eq {io : List Nat} {f : Rho → Rs R} {ρ : Rho} : itSeq io f ρ = (f ρ).bind fun r ρ1 => (freeze io r ρ1).bind fun d ρ2 => opt d.items ρ2 := rfl
theorem inR_small {j : Int} (h1 : -100000000 ≤ j) (h2 : j ≤ 100000000) : inR j := ⟨Int.le_trans (by decide) h1, Int.lt_of_le_of_lt h2 (by decide)⟩
theorem inR_nat {n : Nat} (h : n ≤ 100000000) : inR (n : Int) := inR_small (by omega) (by omega)
@[simp] theorem itR1_eq {f : Rho → Rs R} {ρ : Rho} : itR1 f ρ = (f ρ).bind fun r ρ1 => (opt (r.int ρ1) ρ1).bind fun j ρ2 => if inR j then .ok (upto 0 j.toNat) ρ2 else .stuck := rfl
@[simp] theorem itR2_eq {f h : Rho → Rs R} {ρ : Rho} : itR2 f h ρ = (f ρ).bind fun r ρ1 => (h ρ1).bind fun q ρ2 => (opt (r.int ρ2) ρ2).bind fun i ρ3 => (opt (q.int ρ3) ρ3).bind fun j ρ4 =>
  if inR i ∧ inR j then .ok (upto i (j - i).toNat) ρ4 else .stuck := rfl
@[simp] theorem inR_0 : inR 0 := inR_small (by decide) (by decide)
@[simp] theorem inR_1 : inR 1 := inR_small (by decide) (by decide)
@[simp] theorem inR_2 : inR 2 := inR_small (by decide) (by decide)
@[simp] theorem inR_3 : inR 3 := inR_small (by decide) (by decide)
@[simp] theorem inR_4 : inR 4 := inR_small (by decide) (by decide)
@[simp] theorem inR_5 : inR 5 := inR_small (by decide) (by decide)
@[simp] theorem inR_6 : inR 6 := inR_small (by decide) (by decide)
@[simp] theorem stFor_eq {it : Rho → Rs (List D)} {tg : D → Rho → Rs Unit} {body : Rho → Rs Fl} {ρ : Rho} : stFor it tg body ρ = (it ρ).bind fun xs ρ1 => forL tg body xs ρ1 := rfl
@[simp] theorem stForD_eq {it : Rho → Rs (List D)} {tg : D → Rho → Rs Unit} {body : Rho → Rs Fl} {ρ : Rho} : stForD it tg body ρ = nox ((it ρ).bind fun xs ρ1 => forL tg body xs ρ1) := rfl
/-- a walk with an invariant: at the walk's step k -/
theorem Ok_forL {tg : D → Rho → Rs Unit} {body : Rho → Rs Fl} {P : Fl → Rho → Prop} (I : Nat → Rho → Prop) : ∀ (ds : List D) (k : Nat) (ρ : Rho), I k ρ →
    (∀ i d ρ, ds[i]? = some d → I (k + i) ρ → Ok ((tg d ρ).bind fun _ ρ1 => body ρ1) fun fl ρ' => ((fl = .nx ∨ fl = .ct) ∧ I (k + i + 1) ρ') ∨ (fl = .bk ∧ P .nx ρ') ∨ ∃ r, fl = .rt r ∧ P (.rt r) ρ') →
    (∀ ρ, I (k + ds.length) ρ → P .nx ρ) → Ok (forL tg body ds ρ) P
  | [], k, ρ, h, _, he => Ok_ok.mpr (he ρ h)
  | d :: ds, k, ρ, h, hs, he => by
    have h0 := hs 0 d ρ rfl h
    obtain ⟨fl, ρ', e, h0⟩ := h0
    have go : Ok (forL tg body ds ρ') P ∨ True := .inr trivial
    have e2 : forL tg body (d :: ds) ρ = (((tg d ρ).bind fun _ ρ1 => body ρ1).bind fun fl ρ2 => match fl with
      | .nx => forL tg body ds ρ2
      | .ct => forL tg body ds ρ2
      | .bk => .ok .nx ρ2
      | .rt r => .ok (.rt r) ρ2) := by
      rw [forL]
      cases tg d ρ <;> rfl
    rw [e2, e]
    have next : I (k + 0 + 1) ρ' → Ok (forL tg body ds ρ') P := fun hI => Ok_forL I ds (k + 1) ρ' hI (fun i d' ρ1 hd h1 => by
        have e : k + 1 + i = k + (i + 1) := by omega
        rw [e] at h1 ⊢
        exact hs (i + 1) d' ρ1 (by simpa using hd) h1) (fun ρ1 h1 => he ρ1 (by
          have e : k + 1 + ds.length = k + (d :: ds).length := by rw [List.length_cons]; omega
          rw [← e]; exact h1))
    rcases h0 with ⟨h | h, hI⟩ | ⟨h, hp⟩ | ⟨r, h, hp⟩
    · subst h; exact next hI
    · subst h; exact next hI
    · subst h; exact Ok_ok.mpr hp
    · subst h; exact Ok_ok.mpr hp
/-- a while with an invariant and a measure -/
theorem Ok_while {t : Rho → Rs Bool} {b : Rho → Rs Fl} {P : Fl → Rho → Prop} (I : Nat → Rho → Prop)
    (hs : ∀ n ρ, I n ρ → Ok (t ρ) fun k ρ1 => if k = true then Ok (b ρ1) fun fl ρ2 => ((fl = .nx ∨ fl = .ct) ∧ ∃ m, m < n ∧ I m ρ2) ∨ (fl = .bk ∧ P .nx ρ2) ∨ ∃ r, fl = .rt r ∧ P (.rt r) ρ2 else P .nx ρ1) : ∀ (n : Nat) (ρ : Rho), I n ρ → Ok (stWhile t b ρ) P := by
  intro n
  induction n using Nat.strongRecOn with
  | _ n ih =>
    intro ρ h
    rw [stWhile_eq]
    obtain ⟨k, ρ1, e, h1⟩ := hs n ρ h
    rw [e]
    show Ok (if k = true then _ else _) P
    by_cases hk : k = true
    · rw [if_pos hk] at h1 ⊢
      obtain ⟨fl, ρ2, e2, h2⟩ := h1
      rw [e2]
      rcases h2 with ⟨h | h, m, hm, hI⟩ | ⟨h, hp⟩ | ⟨r, h, hp⟩
      · subst h; exact ih m hm ρ2 hI
      · subst h; exact ih m hm ρ2 hI
      · subst h; exact Ok_ok.mpr hp
      · subst h; exact Ok_ok.mpr hp
    · rw [if_neg hk] at h1 ⊢
      exact Ok_ok.mpr h1
/-- a comprehension -/
theorem Ok_lcL {io vs : List Nat} {ρ0 : Rho} {ft : D → Rho → Rs Unit} {fc : Rho → Rs Bool} {fe : Rho → Rs R} {P : List D → Rho → Prop} (I : Nat → List D → Rho → Prop) : ∀ (ds : List D) (k : Nat) (ρ : Rho) (acc : List D), I k acc ρ →
    (∀ i d ρ acc, ds[i]? = some d → I (k + i) acc ρ → Ok (ft d (wipeR ρ vs)) fun _ ρ2 => Ok (fc ρ2) fun b ρ3 => if b = true then Ok (fe ρ3) fun r ρ4 => Ok (freeze io r ρ4) fun y ρ5 => acc.length < sizeLine ∧ I (k + i + 1) (acc ++ [y]) (restR ρ0 ρ5 vs)
      else I (k + i + 1) acc (restR ρ0 ρ3 vs)) →
    (∀ ρ acc, I (k + ds.length) acc ρ → P acc ρ) → Ok (lcL io vs ρ0 ft fc fe ds ρ acc) P
  | [], k, ρ, acc, h, _, he => Ok_ok.mpr (he ρ acc h)
  | d :: ds, k, ρ, acc, h, hs, he => by
    have h0 := hs 0 d ρ acc rfl h
    have next : ∀ ρ' acc', I (k + 0 + 1) acc' ρ' → Ok (lcL io vs ρ0 ft fc fe ds ρ' acc') P := fun ρ' acc' hI => Ok_lcL I ds (k + 1) ρ' acc' hI (fun i d' ρ1 a1 hd h1 => by
        have e : k + 1 + i = k + (i + 1) := by omega
        rw [e] at h1 ⊢
        exact hs (i + 1) d' ρ1 a1 (by simpa using hd) h1) (fun ρ1 a1 h1 => he ρ1 a1 (by
          have e : k + 1 + ds.length = k + (d :: ds).length := by rw [List.length_cons]; omega
          rw [← e]; exact h1))
    rw [lcL, Ok_bind, Ok_nox]
    refine h0.mono fun _ ρ2 h2 => ?_
    rw [Ok_bind, Ok_nox]
    refine h2.mono fun b ρ3 h3 => ?_
    by_cases hb : b = true
    · rw [if_pos hb] at h3 ⊢
      rw [Ok_bind, Ok_nox]
      refine h3.mono fun r ρ4 h4 => ?_
      rw [Ok_bind]
      refine h4.mono fun y ρ5 ⟨hl, h5⟩ => ?_
      rw [if_pos hl]
      exact next _ _ h5
    · rw [if_neg hb] at h3 ⊢
      exact next _ _ h3
theorem evLc_eq {io vs : List Nat} {fi : Rho → Rs (List D)} {ft : D → Rho → Rs Unit} {fc : Rho → Rs Bool} {fe : Rho → Rs R} {ρ : Rho} : evLc io vs fi ft fc fe ρ = (fi ρ).bind fun xs ρ1 =>
  if vsOk io vs ρ1 = true then (lcL io vs ρ1 ft fc fe xs ρ1 []).bind fun ds ρ2 => .ok (.tmp (.lst ds)) ρ2 else .stuck := rfl
/-- a comprehension that only reads: its list is a map -/
theorem lcL_map {io vs : List Nat} {ρ : Rho} {ft : D → Rho → Rs Unit} {fc : Rho → Rs Bool} {fe : Rho → Rs R} {g : D → D} : ∀ (ds acc : List D), acc.length + ds.length ≤ sizeLine →
    (∀ d ∈ ds, Ok (ft d (wipeR ρ vs)) fun _ ρ2 => Ok (fc ρ2) fun b ρ3 => b = true ∧ Ok (fe ρ3) fun r ρ4 => Ok (freeze io r ρ4) fun y ρ5 => y = g d ∧ restR ρ ρ5 vs = ρ) →
    lcL io vs ρ ft fc fe ds ρ acc = .ok (acc ++ ds.map g) ρ
  | [], acc, _, _ => by rw [lcL]; simp
  | d :: ds, acc, hl, h => by
    obtain ⟨_, ρ2, e2, b, ρ3, e3, hb, r, ρ4, e4, y, ρ5, e5, hy, hr⟩ := h d (List.mem_cons_self ..)
    rw [List.length_cons] at hl
    rw [lcL, e2]
    show (nox (fc ρ2)).bind _ = _
    rw [e3]
    show (if b = true then _ else _) = _
    rw [if_pos hb, e4]
    show (freeze io r ρ4).bind _ = _
    rw [e5]
    show (if acc.length < sizeLine then _ else _) = _
    rw [if_pos (by omega), hr, hy, lcL_map ds (acc ++ [g d]) (by rw [List.length_append]; simp; omega) fun d' hd' => h d' (List.mem_cons_of_mem _ hd')]
    simp
/-- … with a test: a filter, then a map -/
theorem lcL_filt {io vs : List Nat} {ρ : Rho} {ft : D → Rho → Rs Unit} {fc : Rho → Rs Bool} {fe : Rho → Rs R} {p : D → Bool} {g : D → D} : ∀ (ds acc : List D), acc.length + ds.length ≤ sizeLine →
    (∀ d ∈ ds, Ok (ft d (wipeR ρ vs)) fun _ ρ2 => Ok (fc ρ2) fun b ρ3 => b = p d ∧ (b = false → restR ρ ρ3 vs = ρ) ∧ (b = true → Ok (fe ρ3) fun r ρ4 => Ok (freeze io r ρ4) fun y ρ5 => y = g d ∧ restR ρ ρ5 vs = ρ)) →
    lcL io vs ρ ft fc fe ds ρ acc = .ok (acc ++ (ds.filter p).map g) ρ
  | [], acc, _, _ => by rw [lcL]; simp
  | d :: ds, acc, hl, h => by
    obtain ⟨_, ρ2, e2, b, ρ3, e3, hb, hf, ht⟩ := h d (List.mem_cons_self ..)
    rw [List.length_cons] at hl
    rw [lcL, e2]
    show (nox (fc ρ2)).bind _ = _
    rw [e3]
    show (if b = true then _ else _) = _
    cases b with
    | false =>
      rw [if_neg (by simp), hf rfl, lcL_filt ds acc (by omega) fun d' hd' => h d' (List.mem_cons_of_mem _ hd')]
      simp [← hb]
    | true =>
      obtain ⟨r, ρ4, e4, y, ρ5, e5, hy, hr⟩ := ht rfl
      rw [if_pos rfl, e4]
      show (freeze io r ρ4).bind _ = _
      rw [e5]
      show (if acc.length < sizeLine then _ else _) = _
      rw [if_pos (by omega), hr, hy, lcL_filt ds (acc ++ [g d]) (by rw [List.length_append]; simp; omega) fun d' hd' => h d' (List.mem_cons_of_mem _ hd')]
      simp [← hb]
theorem Ok_ite {α : Type} {c : Prop} [Decidable c] {a b : Rs α} {P : α → Rho → Prop} : Ok (if c then a else b) P ↔ if c then Ok a P else Ok b P := by split <;> exact Iff.rfl
theorem Ok_lcMap {io vs : List Nat} {fi : Rho → Rs (List D)} {ft : D → Rho → Rs Unit} {fc : Rho → Rs Bool} {fe : Rho → Rs R} {ρ : Rho} {P : R → Rho → Prop} {α : Type} (xs : List α) (e g : α → D)
    (h : Ok (fi ρ) fun ys ρ1 => ys = xs.map e ∧ xs.length ≤ sizeLine ∧ vsOk io vs ρ1 = true ∧
      (∀ x ∈ xs, Ok (ft (e x) (wipeR ρ1 vs)) fun _ ρ2 => Ok (fc ρ2) fun b ρ3 => b = true ∧ Ok (fe ρ3) fun r ρ4 => Ok (freeze io r ρ4) fun y ρ5 => y = g x ∧ restR ρ1 ρ5 vs = ρ1) ∧ P (.tmp (.lst (xs.map g))) ρ1) : Ok (evLc io vs fi ft fc fe ρ) P := by
  rw [evLc_eq, Ok_bind]
  refine h.mono fun ys ρ1 ⟨h1, h2, h3, h4, h5⟩ => ?_
  subst h1
  rw [if_pos h3]
  have key : ∀ (zs : List α) (acc : List D), (∀ x ∈ zs, x ∈ xs) → acc.length + zs.length ≤ sizeLine → lcL io vs ρ1 ft fc fe (zs.map e) ρ1 acc = .ok (acc ++ zs.map g) ρ1 := by
    intro zs
    induction zs with
    | nil => intro acc _ _; show lcL io vs ρ1 ft fc fe [] ρ1 acc = _; rw [lcL]; simp
    | cons z zs ih =>
      intro acc hz hl
      rw [List.length_cons] at hl
      obtain ⟨_, ρ2, e2, b, ρ3, e3, hb, r, ρ4, e4, y, ρ5, e5, hy, hr⟩ := h4 z (hz z (List.mem_cons_self ..))
      rw [List.map_cons, lcL, e2]
      show (nox (fc ρ2)).bind _ = _
      rw [e3]
      show (if b = true then _ else _) = _
      rw [if_pos hb, e4]
      show (freeze io r ρ4).bind _ = _
      rw [e5]
      show (if acc.length < sizeLine then _ else _) = _
      rw [if_pos (by omega), hr, hy, ih (acc ++ [g z]) (fun x hx => hz x (List.mem_cons_of_mem _ hx)) (by rw [List.length_append]; simp; omega)]
      simp
  rw [key xs [] (fun _ h => h) (by simpa using h2)]
  simpa using h5
theorem Ok_lcFilt {io vs : List Nat} {fi : Rho → Rs (List D)} {ft : D → Rho → Rs Unit} {fc : Rho → Rs Bool} {fe : Rho → Rs R} {ρ : Rho} {P : R → Rho → Prop} {α : Type} (xs : List α) (e g : α → D) (p : α → Bool)
    (h : Ok (fi ρ) fun ys ρ1 => ys = xs.map e ∧ xs.length ≤ sizeLine ∧ vsOk io vs ρ1 = true ∧
      (∀ x ∈ xs, Ok (ft (e x) (wipeR ρ1 vs)) fun _ ρ2 => Ok (fc ρ2) fun b ρ3 => b = p x ∧ (b = false → restR ρ1 ρ3 vs = ρ1) ∧ (b = true → Ok (fe ρ3) fun r ρ4 => Ok (freeze io r ρ4) fun y ρ5 => y = g x ∧ restR ρ1 ρ5 vs = ρ1)) ∧ P (.tmp (.lst ((xs.filter p).map g))) ρ1) : Ok (evLc io vs fi ft fc fe ρ) P := by
  rw [evLc_eq, Ok_bind]
  refine h.mono fun ys ρ1 ⟨h1, h2, h3, h4, h5⟩ => ?_
  subst h1
  rw [if_pos h3]
  have key : ∀ (zs : List α) (acc : List D), (∀ x ∈ zs, x ∈ xs) → acc.length + zs.length ≤ sizeLine → lcL io vs ρ1 ft fc fe (zs.map e) ρ1 acc = .ok (acc ++ (zs.filter p).map g) ρ1 := by
    intro zs
    induction zs with
    | nil => intro acc _ _; show lcL io vs ρ1 ft fc fe [] ρ1 acc = _; rw [lcL]; simp
    | cons z zs ih =>
      intro acc hz hl
      rw [List.length_cons] at hl
      obtain ⟨_, ρ2, e2, b, ρ3, e3, hb, hf, ht⟩ := h4 z (hz z (List.mem_cons_self ..))
      rw [List.map_cons, lcL, e2]
      show (nox (fc ρ2)).bind _ = _
      rw [e3]
      show (if b = true then _ else _) = _
      cases b with
      | false =>
        rw [if_neg (by simp), hf rfl, ih acc (fun x hx => hz x (List.mem_cons_of_mem _ hx)) (by omega)]
        simp [← hb]
      | true =>
        obtain ⟨r, ρ4, e4, y, ρ5, e5, hy, hr⟩ := ht rfl
        rw [if_pos rfl, e4]
        show (freeze io r ρ4).bind _ = _
        rw [e5]
        show (if acc.length < sizeLine then _ else _) = _
        rw [if_pos (by omega), hr, hy, ih (acc ++ [g z]) (fun x hx => hz x (List.mem_cons_of_mem _ hx)) (by rw [List.length_append]; simp; omega)]
        simp [← hb]
  rw [key xs [] (fun _ h => h) (by simpa using h2)]
  simpa using h5
end Spl

namespace Spl
open PySem PySem.Spec L2
open PyProof.Rows

/-! trees of numbers: what == says of them -/
inductive Nm : Nat → D → Prop
  | int {n : Nat} {i : Int} : Nm n (.int i)
  | tup {n : Nat} {xs : List D} : (∀ x ∈ xs, Nm n x) → Nm (n + 1) (.tup xs)
  | lst {n : Nat} {xs : List D} : (∀ x ∈ xs, Nm n x) → Nm (n + 1) (.lst xs)
theorem can_all {xs : List D} (h : ∀ x ∈ xs, x.py.canLay0 = true) : PyData.canLayAll0 (pyL xs) = true := by
  induction xs with
  | nil => rfl
  | cons x xs ih =>
    rw [pyL, PyData.canLayAll0, h x (List.mem_cons_self ..), ih fun y hy => h y (List.mem_cons_of_mem _ hy)]
    rfl
theorem dep_all {n : Nat} {xs : List D} (h : ∀ x ∈ xs, x.py.depth ≤ n) : PyData.depthAll (pyL xs) ≤ n := by
  induction xs with
  | nil => exact Nat.zero_le _
  | cons x xs ih =>
    rw [pyL, PyData.depthAll]
    exact Nat.max_le.mpr ⟨h x (List.mem_cons_self ..), ih fun y hy => h y (List.mem_cons_of_mem _ hy)⟩
def Sh (n : Nat) (d : D) : Prop := d.py.canLay0 = true ∧ d.py.depth ≤ n
theorem Sh.tup {n : Nat} {xs : List D} (h : ∀ x ∈ xs, Sh n x) : Sh (n + 1) (.tup xs) :=
  ⟨can_all fun x hx => (h x hx).1, by show (PyData.tuple (pyL xs)).depth ≤ _; rw [PyData.depth]; exact Nat.succ_le_succ (dep_all fun x hx => (h x hx).2)⟩
theorem Sh.lst {n : Nat} {xs : List D} (h : ∀ x ∈ xs, Sh n x) : Sh (n + 1) (.lst xs) :=
  ⟨can_all fun x hx => (h x hx).1, by show (PyData.list (pyL xs)).depth ≤ _; rw [PyData.depth]; exact Nat.succ_le_succ (dep_all fun x hx => (h x hx).2)⟩
theorem Sh.int {n : Nat} {i : Int} : Sh n (.int i) := ⟨rfl, Nat.zero_le _⟩
theorem Sh.bl {n : Nat} {i : Bool} : Sh n (.bl i) := ⟨rfl, Nat.zero_le _⟩
theorem Sh.non {n : Nat} : Sh n .non := ⟨rfl, Nat.zero_le _⟩
theorem Nm.sh {n : Nat} {d : D} (h : Nm n d) : Sh n d := by
  induction h with
  | int => exact .int
  | tup _ ih => exact .tup ih
  | lst _ ih => exact .lst ih
theorem Sh.shaped {n : Nat} {d : D} (h : Sh n d) (hn : n ≤ 64) : SeqAt.shaped d.py = true := by
  unfold SeqAt.shaped
  rw [h.1, Bool.true_and]
  exact decide_eq_true (Nat.le_trans h.2 hn)
theorem eqv_num {n : Nat} {d : D} (h : Nm n d) : ∀ {m : Nat} {e : D}, Nm m e → (PyData.eqv d.py e.py = true ↔ d = e) := by
  have all : ∀ (xs : List D), (∀ x ∈ xs, ∀ {m : Nat} {e : D}, Nm m e → (PyData.eqv x.py e.py = true ↔ x = e)) → ∀ {m : Nat} (ys : List D), (∀ y ∈ ys, Nm m y) → (PyData.eqvAll (pyL xs) (pyL ys) = true ↔ xs = ys) := by
    intro xs
    induction xs with
    | nil =>
      intro _ m ys _
      cases ys with
      | nil => exact ⟨fun _ => rfl, fun _ => rfl⟩
      | cons y ys => exact ⟨fun h => (nomatch (show false = true from h)), fun h => nomatch h⟩
    | cons x xs ih =>
      intro hx m ys hy
      cases ys with
      | nil => exact ⟨fun h => (nomatch (show false = true from h)), fun h => nomatch h⟩
      | cons y ys =>
        rw [pyL, pyL, PyData.eqvAll, Bool.and_eq_true, hx x (List.mem_cons_self ..) (hy y (List.mem_cons_self ..)), ih (fun z hz => hx z (List.mem_cons_of_mem _ hz)) ys fun z hz => hy z (List.mem_cons_of_mem _ hz)]
        exact ⟨fun ⟨a, b⟩ => by rw [a, b], fun h => by cases h; exact ⟨rfl, rfl⟩⟩
  induction h with
  | int =>
    intro m e he
    cases he with
    | @int i j =>
      show (_ == _) = true ↔ _
      simp
    | tup _ => exact ⟨fun h => (nomatch (show false = true from h)), fun h => nomatch h⟩
    | lst _ => exact ⟨fun h => (nomatch (show false = true from h)), fun h => nomatch h⟩
  | @tup n xs _ ih =>
    intro m e he
    cases he with
    | int => exact ⟨fun h => (nomatch (show false = true from h)), fun h => nomatch h⟩
    | @tup m ys hy =>
      show PyData.eqv (.tuple (pyL xs)) (.tuple (pyL ys)) = true ↔ _
      rw [PyData.eqv, all xs (fun x hx => @ih x hx) ys hy]
      exact ⟨fun e => by rw [e], fun e => by cases e; rfl⟩
    | lst _ => exact ⟨fun h => (nomatch (show false = true from h)), fun h => nomatch h⟩
  | @lst n xs _ ih =>
    intro m e he
    cases he with
    | int => exact ⟨fun h => (nomatch (show false = true from h)), fun h => nomatch h⟩
    | tup _ => exact ⟨fun h => (nomatch (show false = true from h)), fun h => nomatch h⟩
    | @lst m ys hy =>
      show PyData.eqv (.list (pyL xs)) (.list (pyL ys)) = true ↔ _
      rw [PyData.eqv, all xs (fun x hx => @ih x hx) ys hy]
      exact ⟨fun e => by rw [e], fun e => by cases e; rfl⟩
theorem strs_none {d e : D} (h : ∀ x, d ≠ .str x) : D.strs d e = none := by
  cases d <;> try rfl
  exact absurd rfl (h _)
theorem eqD_sh {n m : Nat} {d e : D} (h1 : Sh n d) (h2 : Sh m e) (hn : n ≤ 64) (hm : m ≤ 64) (hs : ∀ x, d ≠ .str x) : eqD d e = some (.val (.bl (PyData.eqv d.py e.py))) := by
  unfold eqD
  rw [strs_none hs]
  show (if _ then bl _ else none) = _
  rw [if_pos ⟨h1.shaped hn, h2.shaped hm⟩]
  rfl
theorem neD_sh {n m : Nat} {d e : D} (h1 : Sh n d) (h2 : Sh m e) (hn : n ≤ 64) (hm : m ≤ 64) (hs : ∀ x, d ≠ .str x) : neD d e = some (.val (.bl (!PyData.eqv d.py e.py))) := by
  unfold neD
  rw [strs_none hs]
  show (if _ then bl _ else none) = _
  rw [if_pos ⟨h1.shaped hn, h2.shaped hm⟩]
  rfl
theorem Nm.nostr {n : Nat} {d : D} (h : Nm n d) : ∀ x, d ≠ .str x := by
  intro x e
  subst e
  cases h
theorem eqD_num {n m : Nat} {d e : D} (h1 : Nm n d) (h2 : Nm m e) (hn : n ≤ 64) (hm : m ≤ 64) {b : Bool} (hb : b = true ↔ d = e) : eqD d e = some (.val (.bl b)) := by
  rw [eqD_sh h1.sh h2.sh hn hm h1.nostr]
  congr 3
  rw [Bool.eq_iff_iff, eqv_num h1 h2, hb]
theorem neD_num {n m : Nat} {d e : D} (h1 : Nm n d) (h2 : Nm m e) (hn : n ≤ 64) (hm : m ≤ 64) {b : Bool} (hb : b = true ↔ ¬ d = e) : neD d e = some (.val (.bl b)) := by
  rw [neD_sh h1.sh h2.sh hn hm h1.nostr]
  congr 3
  rw [Bool.eq_iff_iff, Bool.not_eq_true', Bool.eq_false_iff, hb, Ne, eqv_num h1 h2]
theorem neD_self {n : Nat} {d : D} (h1 : Sh n d) (hn : n ≤ 64) : neD d d = some (.val (.bl false)) := by
  by_cases hs : ∃ x, d = .str x
  · obtain ⟨x, rfl⟩ := hs
    show some (R.val (.bl (!decide (x = x)))) = _
    simp
  · rw [neD_sh h1 h1 hn hn fun x e => hs ⟨x, e⟩, PySem.SeqAt.eqv_refl _ h1.1]
    rfl
theorem neD_str {x : Str} : neD (.str x) (.str x) = some (.val (.bl false)) := by
  show some (R.val (.bl (!decide (x = x)))) = _
  simp
theorem eqD_self {n : Nat} {d : D} (h1 : Sh n d) (hn : n ≤ 64) : eqD d d = some (.val (.bl true)) := by
  by_cases hs : ∃ x, d = .str x
  · obtain ⟨x, rfl⟩ := hs
    show some (R.val (.bl (decide (x = x)))) = _
    simp
  · rw [eqD_sh h1 h1 hn hn fun x e => hs ⟨x, e⟩, PySem.SeqAt.eqv_refl _ h1.1]
theorem eqD_int {i j : Int} : eqD (.int i) (.int j) = some (.val (.bl (decide (i = j)))) := eqD_num (n := 0) (m := 0) .int .int (by decide) (by decide) (by simp)
theorem neD_int {i j : Int} : neD (.int i) (.int j) = some (.val (.bl (!decide (i = j)))) := neD_num (n := 0) (m := 0) .int .int (by decide) (by decide) (by simp)
theorem Nm.ints {n : Nat} {xs : List Int} : ∀ x ∈ xs.map D.int, Nm n x := by
  intro x hx
  obtain ⟨i, _, rfl⟩ := List.mem_map.mp hx
  exact .int
/-- what repr may write -/
structure Wt (n c : Nat) (d : D) : Prop where
  can : d.py.canLay0 = true
  dep : d.py.depth ≤ n
  wt : d.py.weight ≤ c
  sho : d.py.leavesShort 13 = true
  able : d.py.showable = true
theorem Wt.int {n : Nat} {i : Int} (h : i.natAbs < 10 ^ 12) : Wt n 40 (.int i) := by
  have hl : i.natAbs.log2 < 40 := by
    by_cases e : i.natAbs = 0
    · rw [e]; decide
    · rw [Nat.log2_lt e]
      exact Nat.lt_trans h (by decide)
  refine ⟨rfl, Nat.zero_le _, ?_, ?_, ?_⟩
  · show (PyData.int i).weight ≤ 40
    rw [PyData.weight]
    split <;> omega
  · show (PyData.int i).leavesShort 13 = true
    simp only [PyData.leavesShort]
    exact decide_eq_true (PyData.shown_int_le h)
  · show (PyData.int i).showable = true
    simp only [PyData.showable]
    exact decide_eq_true (by omega)
theorem wt_all {n c : Nat} : ∀ {xs : List D}, (∀ x ∈ xs, Wt n c x) → PyData.weightAll (pyL xs) ≤ xs.length * (c + 1) ∧ PyData.leavesShortAll 13 (pyL xs) = true ∧ PyData.showableAll (pyL xs) = true
  | [], _ => ⟨Nat.zero_le _, rfl, rfl⟩
  | x :: xs, h => by
    obtain ⟨h1, h2, h3⟩ := wt_all (xs := xs) fun y hy => h y (List.mem_cons_of_mem _ hy)
    have hx := h x (List.mem_cons_self ..)
    refine ⟨?_, ?_, ?_⟩
    · rw [pyL, PyData.weightAll, List.length_cons, Nat.succ_mul]
      have := hx.wt
      omega
    · rw [pyL, PyData.leavesShortAll, hx.sho, h2]; rfl
    · rw [pyL, PyData.showableAll, hx.able, h3]; rfl
theorem Wt.tup {n c k : Nat} {xs : List D} (h : ∀ x ∈ xs, Wt n c x) (hk : xs.length ≤ k) : Wt (n + 1) (k * (c + 1)) (.tup xs) := by
  obtain ⟨h1, h2, h3⟩ := wt_all h
  have s := Sh.tup (n := n) (xs := xs) fun x hx => ⟨(h x hx).can, (h x hx).dep⟩
  exact ⟨s.1, s.2, by show (PyData.tuple (pyL xs)).weight ≤ _; rw [PyData.weight]; exact Nat.le_trans h1 (Nat.mul_le_mul_right _ hk), by show (PyData.tuple (pyL xs)).leavesShort 13 = true; rw [PyData.leavesShort]; exact h2, by show (PyData.tuple (pyL xs)).showable = true; rw [PyData.showable]; exact h3⟩
theorem Wt.lst {n c k : Nat} {xs : List D} (h : ∀ x ∈ xs, Wt n c x) (hk : xs.length ≤ k) : Wt (n + 1) (k * (c + 1)) (.lst xs) := by
  obtain ⟨h1, h2, h3⟩ := wt_all h
  have s := Sh.lst (n := n) (xs := xs) fun x hx => ⟨(h x hx).can, (h x hx).dep⟩
  exact ⟨s.1, s.2, by show (PyData.list (pyL xs)).weight ≤ _; rw [PyData.weight]; exact Nat.le_trans h1 (Nat.mul_le_mul_right _ hk), by show (PyData.list (pyL xs)).leavesShort 13 = true; rw [PyData.leavesShort]; exact h2, by show (PyData.list (pyL xs)).showable = true; rw [PyData.showable]; exact h3⟩
theorem Wt.mono {n m c k : Nat} {d : D} (h : Wt n c d) (h1 : n ≤ m) (h2 : c ≤ k) : Wt m k d := ⟨h.can, Nat.le_trans h.dep h1, Nat.le_trans h.wt h2, h.sho, h.able⟩
theorem Wt.fits {n c : Nat} {d : D} (h : Wt n c d) (hc : c ≤ 2 ^ 20) : d.py.shown.length ≤ sizeLine := PyData.shown_fits (B := 13) (by decide) (by decide) h.sho (Nat.le_trans h.wt hc)
theorem repr_lst {n c : Nat} {xs : List D} (h : Wt n c (.lst xs)) (hn : n ≤ 60) (hc : c ≤ 2 ^ 20) : reprD (.lst xs) = some (.val (.str (D.py (.lst xs)).shown)) := if_pos ⟨h.can, h.able, Nat.le_trans h.dep hn, h.fits hc⟩
theorem repr_tup {n c : Nat} {xs : List D} (h : Wt n c (.tup xs)) (hn : n ≤ 60) (hc : c ≤ 2 ^ 20) : reprD (.tup xs) = some (.val (.str (D.py (.tup xs)).shown)) := if_pos ⟨h.can, h.able, Nat.le_trans h.dep hn, h.fits hc⟩

/-! operations on shapes that stand -/
@[simp] theorem leD_int {i j : Int} : leD (.int i) (.int j) = some (.val (.bl (decide (i ≤ j)))) := rfl
@[simp] theorem ltD_int {i j : Int} : ltD (.int i) (.int j) = some (.val (.bl (decide (i < j)))) := rfl
@[simp] theorem gtD_int {i j : Int} : gtD (.int i) (.int j) = some (.val (.bl (decide (j < i)))) := rfl
@[simp] theorem geD_int {i j : Int} : geD (.int i) (.int j) = some (.val (.bl (decide (j ≤ i)))) := rfl
@[simp] theorem addD_int {i j : Int} : addD (.int i) (.int j) = some (.val (.int (i + j))) := rfl
@[simp] theorem subD_int {i j : Int} : subD (.int i) (.int j) = some (.val (.int (i - j))) := rfl
@[simp] theorem mulD_int {i j : Int} : mulD (.int i) (.int j) = if mulOk i j = true then some (.val (.int (i * j))) else none := rfl
@[simp] theorem modD_int {i j : Int} : modD (.int i) (.int j) = if 0 < j then some (.val (.int (i % j))) else none := rfl
@[simp] theorem fdivD_int {i j : Int} : fdivD (.int i) (.int j) = if 0 < j ∧ j.natAbs.log2 < 9000 then some (.val (.int (i / j))) else none := rfl
@[simp] theorem negD_int {i : Int} : negD (.int i) = some (.val (.int (-i))) := rfl
@[simp] theorem absD_int {i : Int} : absD (.int i) = some (.val (.int (if i < 0 then -i else i))) := rfl
@[simp] theorem intD_int {i : Int} : intD (.int i) = some (.val (.int i)) := rfl
@[simp] theorem lenD_tup {xs : List D} : lenD (.tup xs) = some (.val (.int xs.length)) := rfl
@[simp] theorem lenD_lst {xs : List D} : lenD (.lst xs) = some (.val (.int xs.length)) := rfl
@[simp] theorem lenD_scr {xs : List Int} : lenD (.scr xs) = some (.val (.int xs.length)) := rfl
@[simp] theorem tupleD_lst {xs : List D} : tupleD (.lst xs) = some (.val (.tup xs)) := rfl
@[simp] theorem isi_int_int {i : Int} : isiD "int" (.int i) = some (.val (.bl true)) := rfl
@[simp] theorem isi_bool_int {i : Int} : isiD "bool" (.int i) = some (.val (.bl false)) := rfl
@[simp] theorem isi_tup_tup {xs : List D} : isiD "tuple" (.tup xs) = some (.val (.bl true)) := rfl
@[simp] theorem eqD_int' {i j : Int} : eqD (.int i) (.int j) = some (.val (.bl (decide (i = j)))) := eqD_int
@[simp] theorem neD_int' {i j : Int} : neD (.int i) (.int j) = some (.val (.bl (!decide (i = j)))) := neD_int
@[simp] theorem ix2_0 {a b : D} : ixDD (.tup [a, b]) (.int 0) = some (.val a) := rfl
@[simp] theorem ix2_1 {a b : D} : ixDD (.tup [a, b]) (.int 1) = some (.val b) := rfl
@[simp] theorem append_lst {xs : List D} {d : D} : appendW (.lst xs) [d] = if xs.length < sizeLine then some (.lst (xs ++ [d]), .non) else none := rfl
theorem mulOk_l {i j : Int} (h : i.natAbs < 2 ^ 64) : mulOk i j = true := by unfold mulOk; simp [h]
theorem mulOk_r {i j : Int} (h : j.natAbs < 2 ^ 64) : mulOk i j = true := by unfold mulOk; simp [h]
theorem ixN_nat {n k : Nat} (h : k < n) : L2.ixN n (k : Int) = some k := by
  unfold L2.ixN
  rw [if_pos (by omega), if_pos (by omega)]
  simp
theorem ix_tup {xs : List D} {k : Nat} {d : D} (h : xs[k]? = some d) : ixDD (.tup xs) (.int (k : Int)) = some (.val d) := by
  have hk : k < xs.length := by
    rw [List.getElem?_eq_some_iff] at h
    exact h.1
  show (L2.atI xs (k : Int)).map R.val = _
  unfold L2.atI
  rw [ixN_nat hk]
  show (xs[k]?).map R.val = _
  rw [h]; rfl
theorem ix_lst {xs : List D} {k : Nat} {d : D} (h : xs[k]? = some d) : ixDD (.lst xs) (.int (k : Int)) = some (.val d) := ix_tup (xs := xs) h
theorem ix_tup0 {xs : List D} {d : D} (h : xs[0]? = some d) : ixDD (.tup xs) (.int 0) = some (.val d) := ix_tup (k := 0) h
theorem ix_lst0 {xs : List D} {d : D} (h : xs[0]? = some d) : ixDD (.lst xs) (.int 0) = some (.val d) := ix_tup (k := 0) h
theorem ix_tupL {xs : List D} {d : D} {k : Nat} (hk : 0 < k) (hl : k ≤ xs.length) (h : xs[xs.length - k]? = some d) : ixDD (.tup xs) (.int (-(k : Int))) = some (.val d) := by
  show (L2.atI xs (-(k : Int))).map R.val = _
  unfold L2.atI L2.ixN
  rw [if_neg (by omega), if_pos (by omega)]
  have e : (-(k : Int) + (xs.length : Int)).toNat = xs.length - k := by omega
  show (xs[(-(k : Int) + (xs.length : Int)).toNat]?).map R.val = _
  rw [e, h]; rfl
theorem ix_tupL1 {xs : List D} {d : D} (h : xs.getLast? = some d) : ixDD (.tup xs) (.int (-1)) = some (.val d) := by
  have hl : 0 < xs.length := by
    cases xs with
    | nil => cases h
    | cons x xs => simp
  exact ix_tupL (k := 1) (by decide) hl (by rw [← List.getLast?_eq_getElem?]; exact h)
theorem ix_lstL {xs : List D} {d : D} {k : Nat} (hk : 0 < k) (hl : k ≤ xs.length) (h : xs[xs.length - k]? = some d) : ixDD (.lst xs) (.int (-(k : Int))) = some (.val d) := ix_tupL hk hl h
theorem allD_all {xs : List D} (p : D → Bool) (q : D → Bool) (h : ∀ x ∈ xs, p x = q x) : allD (.lst (xs.map fun x => .bl (p x))) = some (.val (.bl (xs.all q))) := by
  have e : D.blsOf (xs.map fun x => D.bl (p x)) = some (xs.map p) := by
    clear h
    induction xs with
    | nil => rfl
    | cons x xs ih => rw [List.map_cons, D.blsOf, ih]; rfl
  show (D.blsOf _).map _ = _
  rw [e]
  show some (R.val (.bl ((xs.map p).all id))) = _
  rw [List.all_map]
  congr 3
  rw [Bool.eq_iff_iff, List.all_eq_true, List.all_eq_true]
  exact forall_congr' fun x => forall_congr' fun hx => by show p x = true ↔ _; rw [h x hx]
theorem allD_true {xs : List D} (h : ∀ x ∈ xs, x = .bl true) : allD (.lst xs) = some (.val (.bl true)) := by
  have e : xs = xs.map fun _ => D.bl true := by
    conv => lhs; rw [← List.map_id xs]
    exact List.map_congr_left h
  rw [e, allD_all (fun _ => true) (fun _ => true) fun _ _ => rfl]
  simp
theorem intsOf_map {α : Type} {xs : List α} {f : α → Int} : D.intsOf (xs.map fun x => .int (f x)) = some (xs.map f) := by
  induction xs with
  | nil => rfl
  | cons x xs ih => rw [List.map_cons, D.intsOf, ih]; rfl
theorem maxD_le {α : Type} {xs : List α} {f : α → Int} {b : Int} (hne : xs ≠ []) (h : ∀ x ∈ xs, f x ≤ b) : ∃ m, maxD (.lst (xs.map fun x => .int (f x))) = some (.val (.int m)) ∧ m ≤ b ∧ ∀ x ∈ xs, f x ≤ m := by
  cases xs with
  | nil => exact absurd rfl hne
  | cons x xs =>
    refine ⟨maxI (f x) (xs.map f), ?_, ?_, ?_⟩
    · show (D.intsOf ((x :: xs).map fun x => .int (f x))).bind _ = _
      rw [intsOf_map]; rfl
    · rcases maxI_mem (f x) (xs.map f) with e | e
      · rw [e]; exact h x (List.mem_cons_self ..)
      · obtain ⟨y, hy, e⟩ := List.mem_map.mp e
        rw [← e]; exact h y (List.mem_cons_of_mem _ hy)
    · intro y hy
      rcases List.mem_cons.mp hy with rfl | hy
      · exact (maxI_ge _ _).1
      · exact (maxI_ge _ _).2 _ (List.mem_map.mpr ⟨y, hy, rfl⟩)
theorem minD_ge {α : Type} {xs : List α} {f : α → Int} {b : Int} (hne : xs ≠ []) (h : ∀ x ∈ xs, b ≤ f x) : ∃ m, minD (.lst (xs.map fun x => .int (f x))) = some (.val (.int m)) ∧ b ≤ m := by
  cases xs with
  | nil => exact absurd rfl hne
  | cons x xs =>
    refine ⟨minI (f x) (xs.map f), ?_, ?_⟩
    · show (D.intsOf ((x :: xs).map fun x => .int (f x))).bind _ = _
      rw [intsOf_map]; rfl
    · rcases minI_mem (f x) (xs.map f) with e | e
      · rw [e]; exact h x (List.mem_cons_self ..)
      · obtain ⟨y, hy, e⟩ := List.mem_map.mp e
        rw [← e]; exact h y (List.mem_cons_of_mem _ hy)
theorem sl_tail {α : Type} (xs : List α) : (xs.drop (HT.sIx xs.length 0 (some 1))).take (HT.sIx xs.length xs.length none - HT.sIx xs.length 0 (some 1)) = xs.tail := by
  rw [show (1 : Int) = ((1 : Nat) : Int) from rfl, HT.sIx_nat, HT.sIx_none]
  cases xs with
  | nil => rfl
  | cons x xs =>
    have e : min 1 (x :: xs).length = 1 := by rw [List.length_cons]; omega
    rw [e]
    show xs.take _ = xs
    rw [List.length_cons]
    exact List.take_of_length_le (by omega)
@[simp] theorem slD_tail_tup {xs : List D} : slD (some 1) none (.tup xs) = some (.val (.tup xs.tail)) := by
  show some (R.val (.tup _)) = _
  rw [sl_tail]
@[simp] theorem slD_tail_lst {xs : List D} : slD (some 1) none (.lst xs) = some (.tmp (.lst xs.tail)) := by
  show some (R.tmp (.lst _)) = _
  rw [sl_tail]
theorem sl_take {α : Type} (xs : List α) (k : Nat) : (xs.drop (HT.sIx xs.length 0 none)).take (HT.sIx xs.length xs.length (some (k : Int)) - HT.sIx xs.length 0 none) = xs.take k := by
  rw [HT.sIx_nat, HT.sIx_none, List.drop_zero, Nat.sub_zero, List.take_eq_take_iff]
  omega
theorem slD_take_tup {xs : List D} {k : Nat} : slD none (some (k : Int)) (.tup xs) = some (.val (.tup (xs.take k))) := by
  show some (R.val (.tup _)) = _
  rw [sl_take]
theorem slD_take_scr {xs : List Int} {k : Nat} : slD none (some (k : Int)) (.scr xs) = some (.tmp (.lst ((xs.map D.int).take k))) := by
  have h := sl_take (xs.map D.int) k
  rw [List.length_map] at h
  show some (R.tmp (.lst _)) = _
  rw [h]
def prs {α : Type} (xs : List α) : List (α × α) := xs.zip xs.tail
theorem zipD_map {α β : Type} {f : α → D} {g : β → D} : ∀ {xs : List α} {ys : List β}, zipD (xs.map f) (ys.map g) = (xs.zip ys).map fun p => .tup [f p.1, g p.2]
  | [], ys => by simp [zipD]
  | x :: xs, [] => by simp [zipD]
  | x :: xs, y :: ys => by rw [List.map_cons, List.map_cons, zipD, zipD_map]; simp
theorem itZip_tup {h : Rho → Rs (List D)} {ρ ρ' : Rho} {xs ys : List D} (e : h ρ = .ok [.tup xs, .tup ys] ρ') : itZip h ρ = .ok (zipD xs ys) ρ' := by
  unfold itZip; rw [e]; rfl
theorem itZip_lst {h : Rho → Rs (List D)} {ρ ρ' : Rho} {xs ys : List D} (e : h ρ = .ok [.lst xs, .lst ys] ρ') : itZip h ρ = .ok (zipD xs ys) ρ' := by
  unfold itZip; rw [e]; rfl
def zipK : List D → Rho → Rs (List D)
  | [d, e], ρ1 => if d.isTup = e.isTup then (opt d.items ρ1).bind fun xs ρ2 => (opt e.items ρ2).bind fun ys ρ3 => .ok (zipD xs ys) ρ3 else .stuck
  | _, _ => .stuck
@[simp] theorem itZip_eq {h : Rho → Rs (List D)} {ρ : Rho} : itZip h ρ = (h ρ).bind zipK := by
  unfold itZip
  congr 1
  funext ds ρ1
  match ds with
  | [] => rfl
  | [_] => rfl
  | [_, _] => rfl
  | _ :: _ :: _ :: _ => rfl
@[simp] theorem zipK_tup {xs ys : List D} {ρ : Rho} : zipK [.tup xs, .tup ys] ρ = .ok (zipD xs ys) ρ := rfl
@[simp] theorem zipK_lst {xs ys : List D} {ρ : Rho} : zipK [.lst xs, .lst ys] ρ = .ok (zipD xs ys) ρ := rfl
def zipBK : List D → Rho → Rs (List D)
  | [d, e], ρ1 => (opt d.items ρ1).bind fun xs ρ2 => (opt e.items ρ2).bind fun ys ρ3 => .ok (zipD xs ys) ρ3
  | _, _ => .stuck
@[simp] theorem itZipB_eq {h : Rho → Rs (List D)} {ρ : Rho} : itZipB h ρ = (h ρ).bind zipBK := by
  unfold itZipB
  congr 1
  funext ds ρ1
  match ds with
  | [] => rfl
  | [_] => rfl
  | [_, _] => rfl
  | _ :: _ :: _ :: _ => rfl
@[simp] theorem zipBK_tup {xs ys : List D} {ρ : Rho} : zipBK [.tup xs, .tup ys] ρ = .ok (zipD xs ys) ρ := rfl
@[simp] theorem zipBK_lst {xs ys : List D} {ρ : Rho} : zipBK [.lst xs, .lst ys] ρ = .ok (zipD xs ys) ρ := rfl
@[simp] theorem zipBK_tl {xs ys : List D} {ρ : Rho} : zipBK [.tup xs, .lst ys] ρ = .ok (zipD xs ys) ρ := rfl
@[simp] theorem zipBK_lt {xs ys : List D} {ρ : Rho} : zipBK [.lst xs, .tup ys] ρ = .ok (zipD xs ys) ρ := rfl
def enumK : List D → Rho → Rs (List D)
  | [d], ρ1 => (opt d.items ρ1).bind fun xs ρ2 => .ok (enumFrom 0 xs) ρ2
  | _, _ => .stuck
@[simp] theorem itEnumA_eq {h : Rho → Rs (List D)} {ρ : Rho} : itEnumA h ρ = (h ρ).bind enumK := by
  unfold itEnumA
  congr 1
  funext ds ρ1
  match ds with
  | [] => rfl
  | [_] => rfl
  | _ :: _ :: _ => rfl
@[simp] theorem enumK_tup {xs : List D} {ρ : Rho} : enumK [.tup xs] ρ = .ok (enumFrom 0 xs) ρ := rfl
@[simp] theorem enumK_lst {xs : List D} {ρ : Rho} : enumK [.lst xs] ρ = .ok (enumFrom 0 xs) ρ := rfl
theorem enumFrom_at {k : Nat} {xs : List D} {i : Nat} : (enumFrom k xs)[i]? = (xs[i]?).map fun d => .tup [.int ((k + i : Nat) : Int), d] := by
  induction xs generalizing k i with
  | nil => rw [enumFrom]; simp
  | cons x xs ih =>
    rw [enumFrom]
    cases i with
    | zero => simp
    | succ i =>
      rw [List.getElem?_cons_succ, List.getElem?_cons_succ, ih]
      congr 3
      funext d
      congr 3
      omega
@[simp] theorem le_size1 : (1 : Nat) ≤ sizeLine := by decide
@[simp] theorem le_size2 : (2 : Nat) ≤ sizeLine := by decide
@[simp] theorem le_size3 : (3 : Nat) ≤ sizeLine := by decide
@[simp] theorem le_size4 : (4 : Nat) ≤ sizeLine := by decide
@[simp] theorem le_size5 : (5 : Nat) ≤ sizeLine := by decide
@[simp] theorem le_size6 : (6 : Nat) ≤ sizeLine := by decide
@[simp] theorem le_size7 : (7 : Nat) ≤ sizeLine := by decide
@[simp] theorem le_size8 : (8 : Nat) ≤ sizeLine := by decide
/-- two numbers -/
def pr (p : Int × Int) : D := .tup [.int p.1, .int p.2]
@[simp] theorem ix_pr0 {p : Int × Int} : ixDD (pr p) (.int 0) = some (.val (.int p.1)) := rfl
@[simp] theorem ix_pr1 {p : Int × Int} : ixDD (pr p) (.int 1) = some (.val (.int p.2)) := rfl
@[simp] theorem tg_pr {p : Int × Int} {h : List D → Rho → Rs Unit} {ρ : Rho} : tgTup 2 h (pr p) ρ = h [.int p.1, .int p.2] ρ := rfl
@[simp] theorem isi_pr {p : Int × Int} : isiD "tuple" (pr p) = some (.val (.bl true)) := rfl
@[simp] theorem len_pr {p : Int × Int} : lenD (pr p) = some (.val (.int 2)) := rfl
theorem to_pr {a b : Int} : D.tup [.int a, .int b] = pr (a, b) := rfl
theorem all_bl {α : Type} (xs : List α) : allD (.lst (xs.map fun _ => .bl true)) = some (.val (.bl true)) := allD_true fun x hx => by
  obtain ⟨_, _, rfl⟩ := List.mem_map.mp hx
  rfl
theorem upto_at {a : Int} {n i : Nat} : (upto a n)[i]? = if i < n then some (.int (a + i)) else none := by
  induction n generalizing a i with
  | zero => simp [upto]
  | succ n ih =>
    rw [upto]
    cases i with
    | zero => simp
    | succ i =>
      rw [List.getElem?_cons_succ, ih]
      by_cases h : i < n
      · rw [if_pos h, if_pos (by omega)]
        congr 2
        omega
      · rw [if_neg h, if_neg (by omega)]
theorem upto_some {a : Int} {n i : Nat} {d : D} (h : (upto a n)[i]? = some d) : i < n ∧ d = .int (a + i) := by
  rw [upto_at] at h
  split at h
  · cases h; exact ⟨by assumption, rfl⟩
  · cases h
theorem prs_at {α : Type} {xs : List α} {i : Nat} {a b : α} (h1 : xs[i]? = some a) (h2 : xs[i + 1]? = some b) : (prs xs)[i]? = some (a, b) := by
  unfold prs
  rw [List.getElem?_zip_eq_some]
  exact ⟨h1, by rw [List.getElem?_tail]; exact h2⟩
@[simp] theorem lstSet3_0 {a b c d : D} : lstSet (.lst [a, b, c]) (.int 0) d = some (.lst [d, b, c]) := rfl
@[simp] theorem lstSet3_1 {a b c d : D} : lstSet (.lst [a, b, c]) (.int 1) d = some (.lst [a, d, c]) := rfl
@[simp] theorem lstSet3_2 {a b c d : D} : lstSet (.lst [a, b, c]) (.int 2) d = some (.lst [a, b, d]) := rfl
@[simp] theorem ix3_0 {a b c : D} : ixDD (.lst [a, b, c]) (.int 0) = some (.val a) := rfl
@[simp] theorem ix3_1 {a b c : D} : ixDD (.lst [a, b, c]) (.int 1) = some (.val b) := rfl
@[simp] theorem ix3_2 {a b c : D} : ixDD (.lst [a, b, c]) (.int 2) = some (.val c) := rfl
/-! calls with a thing of one's own -/
def ownK (F : Fn) (as : List A) (ds : List D) (ρ : Rho) : Option W → Rs R
  | none => .stuck
  | some (.dat _) => .stuck
  | some w => ofFR as.length as ρ (F (w :: ds.map W.dat))
theorem appF_own {F : Fn} {i : Nat} {ds : List D} {ρ : Rho} : appF F (.own i :: ds.map A.dat) ρ = ownK F (.own i :: ds.map A.dat) ds ρ (look ρ i) := by
  have nd : (owns (.own i :: ds.map A.dat)).Nodup := by
    show (i :: owns (ds.map A.dat)).Nodup
    rw [owns_dat]; simp
  cases e : look ρ i with
  | none =>
    unfold appF
    rw [if_pos nd]
    have h : argWs ρ (.own i :: ds.map A.dat) = none := by
      show (match look ρ i with | some (.dat _) => none | o => o).bind _ = none
      rw [e]; rfl
    rw [h]; rfl
  | some w =>
    by_cases hd : ∃ d, w = .dat d
    · obtain ⟨d, rfl⟩ := hd
      unfold appF
      rw [if_pos nd]
      have h : argWs ρ (.own i :: ds.map A.dat) = none := by
        show (match look ρ i with | some (.dat _) => none | o => o).bind _ = none
        rw [e]; rfl
      rw [h]; rfl
    · have h : argWs ρ (.own i :: ds.map A.dat) = some (w :: ds.map W.dat) := by
        show (match look ρ i with | some (.dat _) => none | o => o).bind _ = _
        rw [e]
        cases w with
        | dat d => exact absurd ⟨d, rfl⟩ hd
        | _ =>
          show (argWs ρ (ds.map A.dat)).map _ = _
          rw [argWs_dat]; rfl
      rw [appF_eq nd h]
      cases w with
      | dat d => exact absurd ⟨d, rfl⟩ hd
      | _ => rfl
@[simp] theorem appF_o0 {F : Fn} {i : Nat} {ρ : Rho} : appF F [.own i] ρ = ownK F [.own i] [] ρ (look ρ i) := appF_own (ds := [])
@[simp] theorem appF_o1 {F : Fn} {i : Nat} {d : D} {ρ : Rho} : appF F [.own i, .dat d] ρ = ownK F [.own i, .dat d] [d] ρ (look ρ i) := appF_own (ds := [d])
@[simp] theorem appF_o2 {F : Fn} {i : Nat} {d e : D} {ρ : Rho} : appF F [.own i, .dat d, .dat e] ρ = ownK F [.own i, .dat d, .dat e] [d, e] ρ (look ρ i) := appF_own (ds := [d, e])
@[simp] theorem appF_o3 {F : Fn} {i : Nat} {d e f : D} {ρ : Rho} : appF F [.own i, .dat d, .dat e, .dat f] ρ = ownK F [.own i, .dat d, .dat e, .dat f] [d, e, f] ρ (look ρ i) := appF_own (ds := [d, e, f])
@[simp] theorem ownK_lst {F : Fn} {as : List A} {ds : List D} {ρ : Rho} {xs : List D} : ownK F as ds ρ (some (.lst xs)) = ofFR as.length as ρ (F (.lst xs :: ds.map W.dat)) := rfl
@[simp] theorem ownK_dic {F : Fn} {as : List A} {ds : List D} {ρ : Rho} {ks : List KK} {xs : List D} : ownK F as ds ρ (some (.dic ks xs)) = ofFR as.length as ρ (F (.dic ks xs :: ds.map W.dat)) := rfl
@[simp] theorem backW_nil {io : List W} {ρ : Rho} : backW [] io ρ = ρ := by cases io <;> rfl
@[simp] theorem backW_own {i : Nat} {as : List A} {w : W} {io : List W} {ρ : Rho} : backW (.own i :: as) (w :: io) ρ = backW as io (ρ.set i (some w)) := rfl
@[simp] theorem backW_d {d : D} {as : List A} {w : W} {io : List W} {ρ : Rho} : backW (.dat d :: as) (w :: io) ρ = backW as io ρ := rfl
def callTK (F : Fn) (as : List A) (ρ2 : Rho) : R → Rs R
  | .tmp w => if as.all A.isDat = true then match argWs ρ2 as with
    | none => .stuck
    | some ws => match F (w :: ws) with
      | .ret u io => if as.length < io.length then .ok (.of u) ρ2 else .stuck
      | _ => .stuck
    else .stuck
  | _ => .stuck
@[simp] theorem evCallT_eq {F : Fn} {f : Rho → Rs R} {h : Rho → Rs (List A)} {ρ : Rho} : evCallT F f h ρ = (f ρ).bind fun r ρ1 => (h ρ1).bind fun as ρ2 => callTK F as ρ2 r := by
  unfold evCallT
  congr 1
theorem Ret.tmp {F : Fn} {w : W} {ds : List D} {P : W → List W → Prop} {ρ : Rho} {Q : R → Rho → Prop} (h : Ret F (w :: ds.map W.dat) P) (hq : ∀ u io, P u io → Q (.of u) ρ) : Ok (callTK F (ds.map A.dat) ρ (.tmp w)) Q := by
  obtain ⟨u, io, e, l, p⟩ := h
  have hd : (ds.map A.dat).all A.isDat = true := by
    rw [List.all_eq_true]
    intro a ha
    obtain ⟨d, _, rfl⟩ := List.mem_map.mp ha
    rfl
  show Ok (if (ds.map A.dat).all A.isDat = true then _ else _) Q
  rw [if_pos hd, argWs_dat]
  show Ok (match F (w :: ds.map W.dat) with | .ret u io => _ | _ => _) Q
  rw [e]
  show Ok (if (ds.map A.dat).length < io.length then _ else _) Q
  rw [if_pos (by rw [l, List.length_map, List.length_cons, List.length_map]; omega)]
  exact Ok_ok.mpr (hq u io p)
theorem Ret.tmp0 {F : Fn} {w : W} {P : W → List W → Prop} {ρ : Rho} {Q : R → Rho → Prop} (h : Ret F [w] P) (hq : ∀ u io, P u io → Q (.of u) ρ) : Ok (callTK F [] ρ (.tmp w)) Q := Ret.tmp (ds := []) h hq
theorem Fun.ofE {np nn : Nat} {fb : Rho → Rs Fl} {ds : List D} {P : D → Prop} (h1 : ds.length = np) (h3 : Ok (fb (ds.map (fun d => some (.dat d)) ++ List.replicate (nn - np) none)) fun fl ρ => ∃ d, (∃ r, fl = .rt r ∧ outW [] ρ r = some (.dat d)) ∧ P d) : ∃ d, Fun (fnOf [] np nn fb) ds d ∧ P d := by
  obtain ⟨fl, ρ, e, d, ⟨r, rfl, o⟩, p⟩ := h3
  exact ⟨d, Fun.of h1 ⟨_, ρ, e, r, rfl, o⟩, p⟩
theorem popW_snoc {xs : List D} {d : D} : popW (.lst (xs ++ [d])) [] = some (.lst xs, d) := by
  show ((xs ++ [d])[(xs ++ [d]).length - 1]?).map _ = _
  simp
/-- loops without break and return -/
theorem Ok_while' {t : Rho → Rs Bool} {b : Rho → Rs Fl} {P : Fl → Rho → Prop} (I : Nat → Rho → Prop) (J : Rho → Prop)
    (hs : ∀ n ρ, I n ρ → Ok (t ρ) fun k ρ1 => if k = true then Ok (b ρ1) fun fl ρ2 => fl = .nx ∧ ∃ m, m < n ∧ I m ρ2 else J ρ1) (hJ : ∀ ρ, J ρ → P .nx ρ) (n : Nat) (ρ : Rho) (h : I n ρ) : Ok (stWhile t b ρ) P := by
  refine Ok_while I (fun n ρ h => (hs n ρ h).mono fun k ρ1 h1 => ?_) n ρ h
  by_cases hk : k = true
  · rw [if_pos hk] at h1 ⊢
    exact h1.mono fun fl ρ2 ⟨e, m, hm, hi⟩ => .inl ⟨.inl e, m, hm, hi⟩
  · rw [if_neg hk] at h1 ⊢
    exact hJ _ h1
theorem Ok_for' {tg : D → Rho → Rs Unit} {body : Rho → Rs Fl} {P : Fl → Rho → Prop} (I : Nat → Rho → Prop) (ds : List D) (ρ : Rho) (h : I 0 ρ)
    (hs : ∀ i d ρ, ds[i]? = some d → I i ρ → Ok (tg d ρ) fun _ ρ1 => Ok (body ρ1) fun fl ρ' => fl = .nx ∧ I (i + 1) ρ')
    (he : ∀ ρ, I ds.length ρ → P .nx ρ) : Ok (forL tg body ds ρ) P := by
  refine Ok_forL I ds 0 ρ h (fun i d ρ hd hi => ?_) fun ρ h => he ρ (by rw [Nat.zero_add] at h; exact h)
  rw [Nat.zero_add] at hi ⊢
  rw [Ok_bind]
  exact (hs i d ρ hd hi).mono fun _ ρ1 h1 => h1.mono fun fl ρ' ⟨e, h2⟩ => .inl ⟨.inl e, h2⟩
end Spl

namespace Spl
open PySem PySem.Spec L2
open PyProof.Rows
/-! dicts whose keys are numbers, as lists of pairs -/
def kI (i : Int) : KK := .inl (.inl i)
def dK (ps : List (Int × D)) : List KK := ps.map fun p => kI p.1
def dV (ps : List (Int × D)) : List D := ps.map fun p => p.2
def keysA (ps : List (Int × D)) : List Int := ps.map fun p => p.1
def putA : List (Int × D) → Int → D → List (Int × D)
  | [], k, d => [(k, d)]
  | p :: r, k, d => if p.1 = k then (p.1, d) :: r else p :: putA r k d
theorem kI_inj {i j : Int} : kI i = kI j ↔ i = j := ⟨fun h => by cases h; rfl, fun h => by rw [h]⟩
@[simp] theorem keyD_int {i : Int} : keyD (.int i) = some (kI i) := rfl
@[simp] theorem allInl_dK {ps : List (Int × D)} : allInl (dK ps) = true := by
  induction ps with
  | nil => rfl
  | cons p r ih => exact ih
@[simp] theorem dK_len {ps : List (Int × D)} : (dK ps).length = ps.length := List.length_map ..
theorem dput_A {ps : List (Int × D)} {k : Int} {d : D} : dput (dK ps) (dV ps) (kI k) d = (dK (putA ps k d), dV (putA ps k d)) := by
  induction ps with
  | nil => rfl
  | cons p r ih =>
    show (if kI p.1 = kI k then _ else _) = _
    by_cases h : p.1 = k
    · rw [if_pos (kI_inj.mpr h), putA, if_pos h]; rfl
    · rw [if_neg fun e => h (kI_inj.mp e), putA, if_neg h]
      have ih : dput (r.map fun p => kI p.1) (r.map fun p => p.2) (kI k) d = (dK (putA r k d), dV (putA r k d)) := ih
      rw [ih]; rfl
theorem dlook_A {ps : List (Int × D)} {k : Int} : (dlook (dK ps) (dV ps) (kI k)).isSome = decide (k ∈ keysA ps) := by
  induction ps with
  | nil => rfl
  | cons p r ih =>
    show (if kI p.1 = kI k then some p.2 else dlook (dK r) (dV r) (kI k)).isSome = _
    by_cases h : p.1 = k
    · rw [if_pos (kI_inj.mpr h)]
      have : k ∈ keysA (p :: r) := by rw [← h]; exact List.mem_cons_self ..
      simp [this]
    · rw [if_neg fun e => h (kI_inj.mp e), ih]
      have : (k ∈ keysA (p :: r)) = (k ∈ keysA r) := by
        show (k ∈ p.1 :: keysA r) = _
        rw [List.mem_cons]
        exact propext ⟨fun h' => h'.resolve_left fun e => h e.symm, .inr⟩
      simp only [this]
theorem putA_keys {ps : List (Int × D)} {k : Int} {d : D} : keysA (putA ps k d) = if k ∈ keysA ps then keysA ps else keysA ps ++ [k] := by
  induction ps with
  | nil => rfl
  | cons p r ih =>
    rw [putA]
    by_cases h : p.1 = k
    · rw [if_pos h, if_pos (by rw [← h]; exact List.mem_cons_self ..)]; rfl
    · rw [if_neg h]
      show p.1 :: keysA (putA r k d) = if k ∈ p.1 :: keysA r then p.1 :: keysA r else p.1 :: keysA r ++ [k]
      rw [ih]
      by_cases hm : k ∈ keysA r
      · rw [if_pos hm, if_pos (List.mem_cons_of_mem _ hm)]
      · rw [if_neg hm, if_neg fun e => hm ((List.mem_cons.mp e).resolve_left fun e => h e.symm)]; rfl
theorem putA_mem {ps : List (Int × D)} {k : Int} {d : D} {p : Int × D} (h : p ∈ putA ps k d) : p ∈ ps ∨ p = (k, d) := by
  induction ps with
  | nil => exact .inr (List.mem_singleton.mp h)
  | cons q r ih =>
    rw [putA] at h
    split at h
    · rename_i e
      rcases List.mem_cons.mp h with rfl | h
      · exact .inr (by rw [e])
      · exact .inl (List.mem_cons_of_mem _ h)
    · rcases List.mem_cons.mp h with rfl | h
      · exact .inl (List.mem_cons_self ..)
      · exact (ih h).imp (List.mem_cons_of_mem _) id
theorem putA_nodup {ps : List (Int × D)} {k : Int} {d : D} (h : (keysA ps).Nodup) : (keysA (putA ps k d)).Nodup := by
  rw [putA_keys]
  split
  · exact h
  · rename_i hn
    rw [List.nodup_append]
    exact ⟨h, by simp, fun a ha b hb => by rw [List.mem_singleton] at hb; subst hb; exact fun e => hn (e ▸ ha)⟩
theorem putA_memk {ps : List (Int × D)} {k i : Int} {d : D} : i ∈ keysA (putA ps k d) ↔ i ∈ keysA ps ∨ i = k := by
  rw [putA_keys]
  split
  · rename_i h
    exact ⟨.inl, fun e => e.elim id fun e => e ▸ h⟩
  · rw [List.mem_append, List.mem_singleton]
theorem putA_len {ps : List (Int × D)} {k : Int} {d : D} : (putA ps k d).length ≤ ps.length + 1 := by
  induction ps with
  | nil => exact Nat.le_refl _
  | cons p r ih =>
    rw [putA]
    split
    · simp
    · simp only [List.length_cons]; omega
theorem dicSet_A {ps : List (Int × D)} {k : Int} {d : D} (h : ps.length < sizeLine) : dicSet (.dic (dK ps) (dV ps)) (.int k) d = some (.dic (dK (putA ps k d)) (dV (putA ps k d))) := by
  show (if allInl (dK ps) = true ∧ (dK ps).length < sizeLine then _ else none) = _
  rw [if_pos ⟨allInl_dK, by rw [dK_len]; exact h⟩]
  show some (W.dic (dput _ _ (kI k) d).1 (dput _ _ (kI k) d).2) = _
  rw [dput_A]
@[simp] theorem evPairs_nil {io : List Nat} {ρ : Rho} : evPairs io [] ρ = .ok [] ρ := rfl
@[simp] theorem evPairs_cons {io : List Nat} {f h : Rho → Rs R} {fs : List ((Rho → Rs R) × (Rho → Rs R))} {ρ : Rho} : evPairs io ((f, h) :: fs) ρ = (f ρ).bind fun r ρ1 => (freeze io r ρ1).bind fun k ρ2 => (h ρ2).bind fun q ρ3 => (freeze io q ρ3).bind fun d ρ4 => (evPairs io fs ρ4).bind fun ps ρ5 => .ok ((k, d) :: ps) ρ5 := rfl
@[simp] theorem evDic_eq {io : List Nat} {fs : List ((Rho → Rs R) × (Rho → Rs R))} {ρ : Rho} : evDic io fs ρ = (evPairs io fs ρ).bind fun ps ρ1 => if ps.length ≤ 15 then opt ((foldP ps [] []).map fun r => .tmp (.dic r.1 r.2)) ρ1 else .stuck := rfl
@[simp] theorem evDic0_eq {ρ : Rho} : evDic0 ρ = .ok (.tmp (.dic [] [])) ρ := rfl
theorem foldP_A : ∀ {xs : List (Int × D)} {ps : List (Int × D)}, foldP (xs.map fun p => (D.int p.1, p.2)) (dK ps) (dV ps) = some (dK (xs.foldl (fun ps p => putA ps p.1 p.2) ps), dV (xs.foldl (fun ps p => putA ps p.1 p.2) ps))
  | [], ps => rfl
  | x :: xs, ps => by
    show (keyD (.int x.1)).bind (fun q => foldP (xs.map fun p => (D.int p.1, p.2)) (dput (dK ps) (dV ps) q x.2).1 (dput (dK ps) (dV ps) q x.2).2) = _
    rw [keyD_int]
    show foldP (xs.map fun p => (D.int p.1, p.2)) (dput (dK ps) (dV ps) (kI x.1) x.2).1 (dput (dK ps) (dV ps) (kI x.1) x.2).2 = _
    rw [dput_A]
    exact foldP_A
theorem foldP_1 {k : Int} {d : D} : foldP [(.int k, d)] [] [] = some (dK [(k, d)], dV [(k, d)]) := rfl
theorem foldP_2 {k l : Int} {d e : D} (h : k ≠ l) : foldP [(.int k, d), (.int l, e)] [] [] = some (dK [(k, d), (l, e)], dV [(k, d), (l, e)]) := by
  have := foldP_A (xs := [(k, d), (l, e)]) (ps := [])
  rw [show ([(k, d), (l, e)] : List (Int × D)).foldl (fun ps p => putA ps p.1 p.2) [] = [(k, d), (l, e)] by
    show putA [(k, d)] l e = _
    rw [putA, if_neg h]; rfl] at this
  exact this
/-- numbers at numbers -/
def toD (ps : List (Int × Int)) : List (Int × D) := ps.map fun p => (p.1, .int p.2)
theorem intPairs_D {ps : List (Int × Int)} : intPairs (dK (toD ps)) (dV (toD ps)) = some ps := by
  induction ps with
  | nil => rfl
  | cons p r ih =>
    show (intPairs (dK (toD r)) (dV (toD r))).map _ = _
    rw [ih]; rfl
theorem evSortIt_A {i : Nat} {ρ : Rho} {ps : List (Int × Int)} (h : look ρ i = some (.dic (dK (toD ps)) (dV (toD ps)))) : evSortIt i ρ = .ok (.tmp (.lst ((sortP ps).map pr))) ρ := by
  unfold evSortIt
  rw [h]
  show opt ((intPairs (dK (toD ps)) (dV (toD ps))).map _) ρ = _
  rw [intPairs_D]; rfl
def putI : List (Int × Int) → Int → Int → List (Int × Int)
  | [], k, d => [(k, d)]
  | p :: r, k, d => if p.1 = k then (p.1, d) :: r else p :: putI r k d
theorem putA_toD {ps : List (Int × Int)} {k d : Int} : putA (toD ps) k (.int d) = toD (putI ps k d) := by
  induction ps with
  | nil => rfl
  | cons p r ih =>
    show (if p.1 = k then _ else _) = _
    rw [putI]
    by_cases h : p.1 = k
    · rw [if_pos h, if_pos h]; rfl
    · rw [if_neg h, if_neg h, show (List.map (fun p : Int × Int => (p.1, D.int p.2)) r) = toD r from rfl, ih]; rfl
theorem keys_toD {ps : List (Int × Int)} : keysA (toD ps) = ps.map (·.1) := by
  unfold keysA toD
  rw [List.map_map]; rfl
theorem putI_mem {ps : List (Int × Int)} {k d : Int} {p : Int × Int} (h : p ∈ putI ps k d) : p ∈ ps ∨ p = (k, d) := by
  induction ps with
  | nil => exact .inr (List.mem_singleton.mp h)
  | cons q r ih =>
    rw [putI] at h
    split at h
    · rename_i e
      rcases List.mem_cons.mp h with rfl | h
      · exact .inr (by rw [e])
      · exact .inl (List.mem_cons_of_mem _ h)
    · rcases List.mem_cons.mp h with rfl | h
      · exact .inl (List.mem_cons_self ..)
      · exact (ih h).imp (List.mem_cons_of_mem _) id
theorem sortP_strict {ps : List (Int × Int)} (h : (ps.map (·.1)).Nodup) : (sortP ps).Pairwise fun p q => p.1 < q.1 := by
  have hn : ((sortP ps).map (·.1)).Nodup := ((sortP_perm ps).map _).nodup_iff.mpr h
  rw [List.Nodup, List.pairwise_map] at hn
  exact (sortP_le ps).imp₂ (fun p q h1 h2 => by
    rcases leP_iff.mp h1 with h | h
    · exact h
    · exact absurd h.1 h2) hn
@[simp] theorem isDic_A {ps : List (Int × D)} : W.isDic (.dic (dK ps) (dV ps)) = true := allInl_dK
theorem setdW_A {ps : List (Int × D)} {k : Int} {d : D} (h : ps.length < sizeLine) : ∃ ps' e, setdW (.dic (dK ps) (dV ps)) [.int k, d] = some (.dic (dK ps') (dV ps'), e) ∧ ((keysA ps).Nodup → (keysA ps').Nodup) ∧ (∀ i, i ∈ keysA ps' ↔ i ∈ keysA ps ∨ i = k) ∧ ∀ p ∈ ps', p ∈ ps ∨ p = (k, d) := by
  have hc : allInl (dK ps) = true ∧ (dK ps).length < sizeLine := ⟨allInl_dK, by rw [dK_len]; exact h⟩
  have hl := dlook_A (ps := ps) (k := k)
  cases e : dlook (dK ps) (dV ps) (kI k) with
  | some x =>
    rw [e] at hl
    have hm : k ∈ keysA ps := by simpa using hl.symm
    refine ⟨ps, x, ?_, id, fun i => ⟨.inl, fun h => h.elim id fun e => e ▸ hm⟩, fun p hp => .inl hp⟩
    show (if _ then (keyD (.int k)).map _ else none) = _
    rw [if_pos hc, keyD_int]
    show some (match dlook (dK ps) (dV ps) (kI k) with | some e => _ | none => _) = _
    rw [e]
  | none =>
    refine ⟨putA ps k d, d, ?_, putA_nodup, fun i => putA_memk, fun p hp => putA_mem hp⟩
    show (if _ then (keyD (.int k)).map _ else none) = _
    rw [if_pos hc, keyD_int]
    show some (match dlook (dK ps) (dV ps) (kI k) with | some e => _ | none => _) = _
    rw [e]
    show some (W.dic (dput _ _ (kI k) d).1 (dput _ _ (kI k) d).2, d) = _
    rw [dput_A]
def dicK (f : List Key → List D → List D) : D → Rho → Rs (List D)
  | .dic ks ds, ρ2 => if allInl ks = true then .ok (f (outInl ks) ds) ρ2 else .stuck
  | _, _ => .stuck
@[simp] theorem itDic_eq {io : List Nat} {i : Nat} {f : List Key → List D → List D} {ρ : Rho} : itDic io i f ρ = (evV i ρ).bind fun r ρ1 => (freeze io r ρ1).bind (dicK f) := by
  unfold itDic
  congr 1
  funext r ρ1
  congr 1
  funext d ρ2
  cases d <;> rfl
theorem out_dK {ps : List (Int × D)} : outInl (dK ps) = ps.map fun p => (Sum.inl p.1 : Key) := by
  induction ps with
  | nil => rfl
  | cons p r ih =>
    show Sum.inl p.1 :: outInl (dK r) = _
    rw [ih]; rfl
@[simp] theorem dicK_items {ps : List (Int × D)} {ρ : Rho} : dicK itemsOf (.dic (dK ps) (dV ps)) ρ = .ok (ps.map fun p => .tup [.int p.1, p.2]) ρ := by
  show (if allInl (dK ps) = true then _ else _) = _
  rw [if_pos allInl_dK, out_dK]
  congr 1
  induction ps with
  | nil => rfl
  | cons p r ih =>
    show D.tup [.int p.1, p.2] :: itemsOf (r.map fun p => (Sum.inl p.1 : Key)) (dV r) = _
    rw [ih]; rfl
@[simp] theorem dicK_keys {ps : List (Int × D)} {ρ : Rho} : dicK keysOf (.dic (dK ps) (dV ps)) ρ = .ok ((keysA ps).map D.int) ρ := by
  show (if allInl (dK ps) = true then _ else _) = _
  rw [if_pos allInl_dK, out_dK]
  unfold keysOf keysA
  rw [List.map_map, List.map_map]; rfl
@[simp] theorem tg_two {a b : D} {h : List D → Rho → Rs Unit} {ρ : Rho} : tgTup 2 h (.tup [a, b]) ρ = h [a, b] ρ := rfl
@[simp] theorem listDD_A {ps : List (Int × D)} : listDD (.dic (dK ps) (dV ps)) = some (.tmp (.lst ((keysA ps).map D.int))) := by
  show (if allInl (dK ps) = true then some (R.tmp (.lst ((outInl (dK ps)).map D.keyD))) else none) = _
  rw [if_pos allInl_dK, out_dK]
  unfold keysA
  rw [List.map_map, List.map_map]; rfl
theorem intKeys_A {ps : List (Int × D)} : intKeys (dK ps) = some (keysA ps) := by
  induction ps with
  | nil => rfl
  | cons p r ih =>
    show (intKeys (dK r)).map _ = _
    rw [ih]; rfl
@[simp] theorem sortedD_A {ps : List (Int × D)} : sortedD (.dic (dK ps) (dV ps)) = some (.tmp (.lst ((sortI (keysA ps)).map D.int))) := by
  show (intKeys (dK ps)).map _ = _
  rw [intKeys_A]; rfl
def foldA (xs ps : List (Int × D)) : List (Int × D) := xs.foldl (fun ps p => putA ps p.1 p.2) ps
theorem dictD_A {xs : List (Int × D)} : dictD (.lst (xs.map fun p => .tup [.int p.1, p.2])) = some (.tmp (.dic (dK (foldA xs [])) (dV (foldA xs [])))) := by
  have e : pairsOf (xs.map fun p => D.tup [.int p.1, p.2]) = some (xs.map fun p => (D.int p.1, p.2)) := by
    induction xs with
    | nil => rfl
    | cons p r ih =>
      show (pairsOf (r.map fun p => D.tup [.int p.1, p.2])).map _ = _
      rw [ih]; rfl
  show (pairsOf _).bind _ = _
  rw [e]
  show (foldP (xs.map fun p => (D.int p.1, p.2)) (dK []) (dV [])).map _ = _
  rw [foldP_A]; rfl
theorem foldA_memk {xs : List (Int × D)} : ∀ {ps : List (Int × D)} {i : Int}, i ∈ keysA (foldA xs ps) ↔ i ∈ keysA ps ∨ i ∈ keysA xs := by
  induction xs with
  | nil => intro ps i; exact ⟨.inl, fun h => h.elim id fun h => absurd h (by simp [keysA])⟩
  | cons p r ih =>
    intro ps i
    show i ∈ keysA (foldA r (putA ps p.1 p.2)) ↔ i ∈ keysA ps ∨ i ∈ p.1 :: keysA r
    rw [ih, putA_memk, List.mem_cons, or_assoc]
theorem foldA_nodup {xs : List (Int × D)} : ∀ {ps : List (Int × D)}, (keysA ps).Nodup → (keysA (foldA xs ps)).Nodup := by
  induction xs with
  | nil => intro ps h; exact h
  | cons p r ih => intro ps h; exact ih (putA_nodup h)
/-- a comprehension with a test whose turns may settle names: an invariant on the names -/
theorem Ok_lcFiltJ {io vs : List Nat} {fi : Rho → Rs (List D)} {ft : D → Rho → Rs Unit} {fc : Rho → Rs Bool} {fe : Rho → Rs R} {ρ : Rho} {P : R → Rho → Prop} {α : Type} (J : Rho → Prop) (xs : List α) (e g : α → D) (p : α → Bool)
    (h : Ok (fi ρ) fun ys ρ1 => ys = xs.map e ∧ xs.length ≤ sizeLine ∧ vsOk io vs ρ1 = true ∧ J ρ1 ∧
      (∀ x ∈ xs, ∀ ρ', J ρ' → Ok (ft (e x) (wipeR ρ' vs)) fun _ ρ2 => Ok (fc ρ2) fun b ρ3 => b = p x ∧ (b = false → J (restR ρ1 ρ3 vs)) ∧ (b = true → Ok (fe ρ3) fun r ρ4 => Ok (freeze io r ρ4) fun y ρ5 => y = g x ∧ J (restR ρ1 ρ5 vs))) ∧ ∀ ρ', J ρ' → P (.tmp (.lst ((xs.filter p).map g))) ρ') : Ok (evLc io vs fi ft fc fe ρ) P := by
  rw [evLc_eq, Ok_bind]
  refine h.mono fun ys ρ1 ⟨h1, h2, h3, hJ, h4, h5⟩ => ?_
  subst h1
  rw [if_pos h3, Ok_bind]
  have key : ∀ (zs : List α) (acc : List D) (ρ' : Rho), J ρ' → (∀ x ∈ zs, x ∈ xs) → acc.length + zs.length ≤ sizeLine → Ok (lcL io vs ρ1 ft fc fe (zs.map e) ρ' acc) fun ds ρ2 => ds = acc ++ (zs.filter p).map g ∧ J ρ2 := by
    intro zs
    induction zs with
    | nil => intro acc ρ' hj _ _; exact ⟨_, _, rfl, by simp, hj⟩
    | cons z zs ih =>
      intro acc ρ' hj hz hl
      rw [List.length_cons] at hl
      obtain ⟨_, ρ2, e2, b, ρ3, e3, hb, hf, ht⟩ := h4 z (hz z (List.mem_cons_self ..)) ρ' hj
      rw [List.map_cons, lcL, e2]
      show Ok ((nox (fc ρ2)).bind _) _
      rw [e3]
      show Ok (if b = true then _ else _) _
      cases b with
      | false =>
        rw [if_neg (by simp)]
        refine (ih acc _ (hf rfl) (fun x hx => hz x (List.mem_cons_of_mem _ hx)) (by omega)).mono fun ds ρ6 ⟨h6, h7⟩ => ⟨?_, h7⟩
        rw [h6]; simp [← hb]
      | true =>
        obtain ⟨r, ρ4, e4, y, ρ5, e5, hy, hr⟩ := ht rfl
        rw [if_pos rfl, e4]
        show Ok ((freeze io r ρ4).bind _) _
        rw [e5]
        show Ok (if acc.length < sizeLine then _ else _) _
        rw [if_pos (by omega)]
        refine (ih (acc ++ [y]) _ hr (fun x hx => hz x (List.mem_cons_of_mem _ hx)) (by rw [List.length_append]; simp; omega)).mono fun ds ρ6 ⟨h6, h7⟩ => ⟨?_, h7⟩
        rw [h6, hy]; simp [← hb]
  refine (key xs [] ρ1 hJ (fun _ h => h) (by simpa using h2)).mono fun ds ρ2 ⟨h6, h7⟩ => ?_
  rw [h6]
  simpa using h5 ρ2 h7
/-- a comprehension, an invariant on names and what was gathered -/
theorem Ok_lcI {io vs : List Nat} {fi : Rho → Rs (List D)} {ft : D → Rho → Rs Unit} {fc : Rho → Rs Bool} {fe : Rho → Rs R} {ρ : Rho} {P : R → Rho → Prop} (I : Nat → List D → Rho → Prop)
    (h : Ok (fi ρ) fun ds ρ1 => vsOk io vs ρ1 = true ∧ I 0 [] ρ1 ∧ (∀ i d ρ' acc, ds[i]? = some d → I i acc ρ' → Ok (ft d (wipeR ρ' vs)) fun _ ρ2 => Ok (fc ρ2) fun b ρ3 => if b = true then Ok (fe ρ3) fun r ρ4 => Ok (freeze io r ρ4) fun y ρ5 => acc.length < sizeLine ∧ I (i + 1) (acc ++ [y]) (restR ρ1 ρ5 vs)
      else I (i + 1) acc (restR ρ1 ρ3 vs)) ∧ ∀ ρ' acc, I ds.length acc ρ' → P (.tmp (.lst acc)) ρ') : Ok (evLc io vs fi ft fc fe ρ) P := by
  rw [evLc_eq, Ok_bind]
  refine h.mono fun ds ρ1 ⟨h1, h2, h3, h4⟩ => ?_
  rw [if_pos h1, Ok_bind]
  refine Ok_lcL I ds 0 ρ1 [] h2 (fun i d ρ' acc hd hi => ?_) fun ρ' acc hi => ?_
  · rw [Nat.zero_add] at hi ⊢
    exact h3 i d ρ' acc hd hi
  · rw [Nat.zero_add] at hi
    exact Ok_ok.mpr (h4 ρ' acc hi)
theorem inD_ints {x : Int} {T : List Int} : inDD (.int x) (.lst (T.map D.int)) = some (.val (.bl (decide (x ∈ T)))) := by
  have h1 : SeqAt.shaped (D.py (.int x)) = true := (Sh.int (n := 0)).shaped (by decide)
  have h2 : SeqAt.shaped (PyData.list (pyL (T.map D.int))) = true := (Sh.lst (n := 0) (xs := T.map D.int) fun y hy => by
    obtain ⟨i, _, rfl⟩ := List.mem_map.mp hy
    exact .int).shaped (by decide)
  show (if _ ∧ _ then bl _ else none) = _
  rw [if_pos ⟨h1, h2⟩]
  show some (R.val (.bl _)) = _
  congr 3
  clear h2
  induction T with
  | nil => rfl
  | cons a r ih =>
    show (PyData.eqv (.int a) (.int x) || (pyL (r.map D.int)).any fun z => PyData.eqv z (.int x)) = _
    have e : (pyL (r.map D.int)).any (fun z => PyData.eqv z (.int x)) = decide (x ∈ r) := ih
    rw [e]
    show ((a == x) || decide (x ∈ r)) = _
    rw [Bool.eq_iff_iff, Bool.or_eq_true, decide_eq_true_iff, decide_eq_true_iff, List.mem_cons, beq_iff_eq]
    exact ⟨fun h => h.imp (fun e => e.symm) id, fun h => h.imp (fun e => e.symm) id⟩
theorem mulD_two {d : D} : mulD (.tup [d]) (.int 2) = some (.val (.tup [d, d])) := by
  show (if 0 < [d].length ∧ (2 : Int) ≤ 2 ∧ (2 : Int) ≤ 1000 ∧ [d].length ≤ 1000 then some (R.val (.tup (List.replicate (2 : Int).toNat [d]).flatten)) else none) = _
  rw [if_pos ⟨by simp, by decide, by decide, by simp⟩]
  rfl
@[simp] theorem pick_nil {α : Type} {xs : List α} : pick [] xs = [] := rfl
@[simp] theorem pick_0 {α : Type} {a : α} {xs : List α} {is : List Nat} : pick (0 :: is) (a :: xs) = a :: pick is (a :: xs) := rfl
@[simp] theorem pick_1 {α : Type} {a b : α} {xs : List α} {is : List Nat} : pick (1 :: is) (a :: b :: xs) = b :: pick is (a :: b :: xs) := rfl
@[simp] theorem pick_2 {α : Type} {a b c : α} {xs : List α} {is : List Nat} : pick (2 :: is) (a :: b :: c :: xs) = c :: pick is (a :: b :: c :: xs) := rfl
@[simp] theorem rev_tup {xs : List D} : revDT2 (.tup xs) = some (.val (.tup xs.reverse)) := rfl
@[simp] theorem rev_lst {xs : List D} : revDT2 (.lst xs) = some (.tmp (.lst xs.reverse)) := rfl
@[simp] theorem evCallK_eq {F : Fn} {n m : Nat} {π : List Nat} {dD : List D} {h k : Rho → Rs (List A)} {ρ : Rho} : evCallK F n m π dD h k ρ = (h ρ).bind fun as ρ1 => (k ρ1).bind fun bs ρ2 => if as.length = n ∧ bs.length = m then appF F (pick π (as ++ A.dats dD ++ bs)) ρ2 else .stuck := rfl
theorem all_map {α : Type} (xs : List α) {f : α → Bool} : allD (.lst (xs.map fun x => .bl (f x))) = some (.val (.bl (xs.all f))) := by
  have e : D.blsOf (xs.map fun x => D.bl (f x)) = some (xs.map f) := by
    induction xs with
    | nil => rfl
    | cons a r ih => rw [List.map_cons, D.blsOf, ih]; rfl
  show (D.blsOf _).map _ = _
  rw [e]
  show some (R.val (.bl ((xs.map _).all id))) = _
  rw [List.all_map]; rfl
/-! x += e -/
def augK (io : List Nat) (i : Nat) (ρ : Rho) : Option R → Rs Fl
  | some r => un (store io i r ρ)
  | none => .stuck
def augM (io : List Nat) (i : Nat) (o : D → D → Option R) (ρ : Rho) : Option W → Option D → Rs Fl
  | some w, some e => augK io i ρ (o w.view e)
  | _, _ => .stuck
@[simp] theorem augK_some {io : List Nat} {i : Nat} {ρ : Rho} {r : R} : augK io i ρ (some r) = un (store io i r ρ) := rfl
@[simp] theorem augM_some {io : List Nat} {i : Nat} {o : D → D → Option R} {ρ : Rho} {w : W} {e : D} : augM io i o ρ (some w) (some e) = augK io i ρ (o w.view e) := rfl
@[simp] theorem stAug_eq {io : List Nat} {i : Nat} {o : D → D → Option R} {f : Rho → Rs R} {ρ : Rho} : stAug io i o f ρ = if (look ρ i).isSome = true then (f ρ).bind fun q ρ2 => augM io i o ρ2 (look ρ2 i) (q.view ρ2) else .stuck := by
  unfold stAug
  congr 2
@[simp] theorem augD_add {i j : Int} : augD .add (.int i) (.int j) = some (.val (.int (i + j))) := rfl
@[simp] theorem augD_sub {i j : Int} : augD .sub (.int i) (.int j) = some (.val (.int (i - j))) := rfl
@[simp] theorem augD_mul {i j : Int} : augD .mul (.int i) (.int j) = if mulOk i j = true then some (.val (.int (i * j))) else none := rfl
@[simp] theorem augD_fdiv {i j : Int} : augD .fdiv (.int i) (.int j) = if 0 < j ∧ j.natAbs.log2 < 9000 then some (.val (.int (i / j))) else none := rfl
@[simp] theorem augD_mod {i j : Int} : augD .mod (.int i) (.int j) = if 0 < j then some (.val (.int (i % j))) else none := rfl
end Spl

namespace Spl
open PySem PySem.Spec L2
/-- the turns of one source, all names back after each -/
theorem Ok_dcL {vs : List Nat} {ρ0 : Rho} {ft : D → Rho → Rs Unit} {body : Acc → Rho → Rs Acc} {P : Acc → Rho → Prop} (I : Nat → Acc → Prop) : ∀ (us : List D) (k : Nat) (acc : Acc), I k acc →
    (∀ i u acc, us[i]? = some u → I (k + i) acc → Ok (ft u (wipeR ρ0 vs)) fun _ ρ2 => Ok (body acc ρ2) fun acc' ρ3 => restR ρ0 ρ3 vs = ρ0 ∧ I (k + i + 1) acc') → (∀ acc, I (k + us.length) acc → P acc ρ0) → Ok (dcL vs ρ0 ft body us ρ0 acc) P
  | [], k, acc, h, _, he => Ok_ok.mpr (he acc h)
  | u :: us, k, acc, h, hs, he => by
    have h0 := hs 0 u acc rfl h
    rw [dcL, Ok_bind, Ok_nox]
    refine h0.mono fun _ ρ2 h2 => ?_
    rw [Ok_bind, Ok_nox]
    refine h2.mono fun acc' ρ3 ⟨e, h3⟩ => ?_
    rw [e]
    refine Ok_dcL I us (k + 1) acc' h3 (fun i u' a hu hi => ?_) fun a ha => he a ?_
    · have e : k + 1 + i = k + (i + 1) := by omega
      rw [e] at hi ⊢
      exact hs (i + 1) u' a (by simpa using hu) hi
    · have e : k + 1 + us.length = k + (u :: us).length := by rw [List.length_cons]; omega
      rw [← e]
      exact ha
/-- {low + j * w: d for low in keys for j in range(m)}, the keys numbers, their set known -/
theorem Ok_dc2 {io vs vs' : List Nat} {fi : Rho → Rs (List D)} {ft : D → Rho → Rs Unit} {fi' : Rho → Rs (List D)} {ft' : D → Rho → Rs Unit} {fk fv : Rho → Rs R} {ρ : Rho} {P : R → Rho → Prop} (xs ys : List Int) (f : Int → Int → Int) (d : D)
    (h : Ok (fi ρ) fun us ρ1 => us = xs.map D.int ∧ vsOk io vs ρ1 = true ∧ (∀ x ∈ xs, Ok (ft (.int x) (wipeR ρ1 vs)) fun _ ρ2 => Ok (fi' ρ2) fun us' ρ3 => us' = ys.map D.int ∧ vsOk io vs' ρ3 = true ∧ restR ρ1 ρ3 vs = ρ1 ∧
      ∀ y ∈ ys, Ok (ft' (.int y) (wipeR ρ3 vs')) fun _ ρ4 => Ok (fk ρ4) fun r ρ5 => r.view ρ5 = some (.int (f x y)) ∧ Ok (fv ρ5) fun q ρ6 => Ok (freeze io q ρ6) fun e ρ7 => e = d ∧ restR ρ3 ρ7 vs' = ρ3) ∧
      (∀ l : List Int, l.Nodup → (∀ t ∈ l, ∃ x ∈ xs, ∃ y ∈ ys, t = f x y) → l.length < sizeLine) ∧
      ∀ ps : List (Int × D), (keysA ps).Nodup → (∀ t, t ∈ keysA ps ↔ ∃ x ∈ xs, ∃ y ∈ ys, t = f x y) → P (.tmp (.dic (dK ps) (dV ps))) ρ1) : Ok (evDc2 io vs vs' fi ft fi' ft' fk fv ρ) P := by
  unfold evDc2
  rw [Ok_bind]
  refine h.mono fun us ρ1 ⟨h1, h2, h3, h4, h5⟩ => ?_
  subst h1
  rw [if_pos h2, Ok_bind]
  refine Ok_dcL (fun k acc => ∃ ps, acc = (dK ps, dV ps) ∧ (keysA ps).Nodup ∧ ∀ t, t ∈ keysA ps ↔ ∃ x ∈ xs.take k, ∃ y ∈ ys, t = f x y) _ 0 _ ⟨[], rfl, List.nodup_nil, fun t => by simp [keysA]⟩ ?_ ?_
  · rintro i u acc hu ⟨ps, rfl, nd, hS⟩
    rw [List.getElem?_map] at hu
    obtain ⟨x, hx, rfl⟩ := Option.map_eq_some_iff.mp hu
    rw [Nat.zero_add] at hS ⊢
    have hxm := List.mem_of_getElem? hx
    have et : xs.take (i + 1) = xs.take i ++ [x] := by rw [List.take_add_one, hx]; rfl
    refine (h3 x hxm).mono fun _ ρ2 h6 => ?_
    unfold bdI
    rw [Ok_bind]
    refine h6.mono fun us' ρ3 ⟨h7, h8, h9, h10⟩ => ?_
    subst h7
    rw [if_pos h8]
    refine Ok_dcL (fun k acc => ∃ ps, acc = (dK ps, dV ps) ∧ (keysA ps).Nodup ∧ ∀ t, t ∈ keysA ps ↔ (∃ x ∈ xs.take i, ∃ y ∈ ys, t = f x y) ∨ ∃ y ∈ ys.take k, t = f x y) _ 0 _ ⟨ps, rfl, nd, fun t => by rw [hS]; simp⟩ ?_ ?_
    · rintro j u' acc hu' ⟨qs, rfl, qn, qS⟩
      rw [List.getElem?_map] at hu'
      obtain ⟨y, hy, rfl⟩ := Option.map_eq_some_iff.mp hu'
      rw [Nat.zero_add] at qS ⊢
      have hym := List.mem_of_getElem? hy
      have ey : ys.take (j + 1) = ys.take j ++ [y] := by rw [List.take_add_one, hy]; rfl
      refine (h10 y hym).mono fun _ ρ4 h11 => ?_
      unfold bdK
      rw [Ok_bind]
      refine h11.mono fun r ρ5 ⟨h12, h13⟩ => ?_
      rw [h12]
      show Ok ((opt (some (kI (f x y))) ρ5).bind _) _
      rw [opt_some, bind_ok, Ok_bind]
      refine h13.mono fun q ρ6 h14 => ?_
      rw [Ok_bind]
      refine h14.mono fun e ρ7 ⟨h15, h16⟩ => ?_
      subst h15
      have hz : (keysA qs).length < sizeLine := h4 _ qn fun t ht => by
        rcases (qS t).mp ht with ⟨x', hx', y', hy', e⟩ | ⟨y', hy', e⟩
        · exact ⟨x', List.mem_of_mem_take hx', y', hy', e⟩
        · exact ⟨x, hxm, y', List.mem_of_mem_take hy', e⟩
      have hz' : (dK qs).length < sizeLine := by rw [dK_len]; simpa [keysA] using hz
      rw [if_pos hz', Ok_ok]
      refine ⟨h16, putA qs (f x y) e, by show dput (dK qs) (dV qs) (kI (f x y)) e = _; rw [dput_A], putA_nodup qn, fun t => ?_⟩
      rw [putA_memk, qS, ey]
      constructor
      · rintro ((h | ⟨y', hy', e⟩) | rfl)
        · exact .inl h
        · exact .inr ⟨y', List.mem_append_left _ hy', e⟩
        · exact .inr ⟨y, List.mem_append_right _ (List.mem_singleton.mpr rfl), rfl⟩
      · rintro (h | ⟨y', hy', e⟩)
        · exact .inl (.inl h)
        · rcases List.mem_append.mp hy' with hy' | hy'
          · exact .inl (.inr ⟨y', hy', e⟩)
          · rw [List.mem_singleton.mp hy'] at e
            exact .inr e
    · rintro acc ⟨qs, rfl, qn, qS⟩
      rw [List.length_map, Nat.zero_add, List.take_length] at qS
      refine ⟨h9, qs, rfl, qn, fun t => ?_⟩
      rw [qS, et]
      constructor
      · rintro (⟨x', hx', r⟩ | ⟨y', hy', e⟩)
        · exact ⟨x', List.mem_append_left _ hx', r⟩
        · exact ⟨x, List.mem_append_right _ (List.mem_singleton.mpr rfl), y', hy', e⟩
      · rintro ⟨x', hx', y', hy', e⟩
        rcases List.mem_append.mp hx' with hx' | hx'
        · exact .inl ⟨x', hx', y', hy', e⟩
        · rw [List.mem_singleton.mp hx'] at e
          exact .inr ⟨y', hy', e⟩
  · rintro acc ⟨ps, rfl, nd, hS⟩
    rw [List.length_map, Nat.zero_add, List.take_length] at hS
    exact Ok_ok.mpr (h5 ps nd hS)
@[simp] theorem evListR_eq {f : Rho → Rs R} {ρ : Rho} : evListR f ρ = (f ρ).bind fun r ρ1 => (opt (r.int ρ1) ρ1).bind fun j ρ2 => if inL j then .ok (.tmp (.lst (upto 0 j.toNat))) ρ2 else .stuck := rfl
end Spl

namespace Spl
open PySem PySem.Spec L2
@[simp] theorem itR3_eq {f h k : Rho → Rs R} {ρ : Rho} : itR3 f h k ρ = (f ρ).bind fun r ρ1 => (h ρ1).bind fun q ρ2 => (k ρ2).bind fun z ρ3 => (opt (r.int ρ3) ρ3).bind fun i ρ4 => (opt (q.int ρ4) ρ4).bind fun j ρ5 => (opt (z.int ρ5) ρ5).bind fun c ρ6 =>
  if (inR i ∧ inR j) ∧ c = -1 then .ok (dnto i (i - j).toNat) ρ6 else .stuck := rfl
theorem dnto_some {a : Int} {n i : Nat} {d : D} (h : (dnto a n)[i]? = some d) : i < n ∧ d = .int (a - i) := by
  have h2 := (List.getElem?_eq_some_iff.mp h).1
  rw [dnto_len] at h2
  refine ⟨h2, ?_⟩
  rw [dnto_get _ _ _ _ h]
  congr 1
  omega
theorem itLast_A {i : Nat} {ρ : Rho} {xs : List D} {ps : List (Int × D)} (h : look ρ i = some (.lst xs)) (h2 : xs.getLast? = some (.dic (dK ps) (dV ps))) : itLast i ρ = .ok ((keysA ps).map D.int) ρ := by
  unfold itLast
  rw [h]
  have e : L2.atI xs (-1) = some (.dic (dK ps) (dV ps)) := by
    have hn : xs ≠ [] := fun z => by rw [z] at h2; cases h2
    have hl : 0 < xs.length := List.length_pos_iff.mpr hn
    unfold L2.atI L2.ixN
    rw [if_neg (by decide), if_pos (by omega)]
    show xs[((xs.length : Int) + -1).toNat]? = _
    rw [List.getLast?_eq_getElem?] at h2
    rw [← h2]
    congr 1
    omega
  show (match L2.atI xs (-1) with | some (.dic ks ds) => if allInl ks = true then Rs.ok (keysOf (outInl ks) ds) ρ else .stuck | _ => .stuck) = _
  rw [e]
  exact dicK_keys
/-- what repr may write, numbers of sixty figures too -/
structure Wb (n c : Nat) (d : D) : Prop where
  can : d.py.canLay0 = true
  dep : d.py.depth ≤ n
  wt : d.py.weight ≤ c
  sho : d.py.leavesShort 60 = true
  able : d.py.showable = true
theorem Wb.intB {n k c : Nat} {i : Int} (h : i.natAbs < 10 ^ k) (hk : 1 ≤ k) (hk2 : k < 60) (hc : i.natAbs < 2 ^ c) (hc2 : c < 1000) : Wb n c (.int i) := by
  have hl : i.natAbs = 0 ∨ i.natAbs.log2 < c := by
    by_cases e : i.natAbs = 0
    · exact .inl e
    · exact .inr ((Nat.log2_lt e).mpr hc)
  refine ⟨rfl, Nat.zero_le _, ?_, ?_, ?_⟩
  · show (PyData.int i).weight ≤ c
    rw [PyData.weight]
    rcases hl with hl | hl
    · have : i = 0 := by omega
      subst this
      exact Nat.zero_le _
    · split <;> omega
  · show (PyData.int i).leavesShort 60 = true
    simp only [PyData.leavesShort]
    refine decide_eq_true ?_
    have e := int_text_length_le10 (k := k) hk h
    show (Str.ofString (toString i)).length ≤ 60
    rw [ofString_length]; omega
  · show (PyData.int i).showable = true
    simp only [PyData.showable]
    refine decide_eq_true ?_
    rcases hl with hl | hl
    · rw [hl]; decide
    · omega
theorem Wb.str {n c : Nat} {x : Str} (h : (D.str x).py.canLay0 = true) (hw : x.cps.size ≤ c) (hs : x.cps.toList.all (fun c => decide (c < 16 ^ 8)) = true) : Wb n c (.str x) := by
  refine ⟨h, Nat.zero_le _, ?_, ?_, ?_⟩
  · show (PyData.str x).weight ≤ c
    rw [PyData.weight]; exact hw
  · show (PyData.str x).leavesShort 60 = true
    simp only [PyData.leavesShort]
    exact hs
  · show (PyData.str x).showable = true
    simp only [PyData.showable]
theorem wb_all {n c : Nat} : ∀ {xs : List D}, (∀ x ∈ xs, Wb n c x) → PyData.weightAll (pyL xs) ≤ xs.length * (c + 1) ∧ PyData.leavesShortAll 60 (pyL xs) = true ∧ PyData.showableAll (pyL xs) = true
  | [], _ => ⟨Nat.zero_le _, rfl, rfl⟩
  | x :: xs, h => by
    obtain ⟨h1, h2, h3⟩ := wb_all (xs := xs) fun y hy => h y (List.mem_cons_of_mem _ hy)
    have hx := h x (List.mem_cons_self ..)
    refine ⟨?_, ?_, ?_⟩
    · rw [pyL, PyData.weightAll, List.length_cons, Nat.succ_mul]
      have := hx.wt
      omega
    · rw [pyL, PyData.leavesShortAll, hx.sho, h2]; rfl
    · rw [pyL, PyData.showableAll, hx.able, h3]; rfl
theorem Wb.tup {n c k : Nat} {xs : List D} (h : ∀ x ∈ xs, Wb n c x) (hk : xs.length ≤ k) : Wb (n + 1) (k * (c + 1)) (.tup xs) := by
  obtain ⟨h1, h2, h3⟩ := wb_all h
  have s := Sh.tup (n := n) (xs := xs) fun x hx => ⟨(h x hx).can, (h x hx).dep⟩
  exact ⟨s.1, s.2, by show (PyData.tuple (pyL xs)).weight ≤ _; rw [PyData.weight]; exact Nat.le_trans h1 (Nat.mul_le_mul_right _ hk), by show (PyData.tuple (pyL xs)).leavesShort 60 = true; rw [PyData.leavesShort]; exact h2, by show (PyData.tuple (pyL xs)).showable = true; rw [PyData.showable]; exact h3⟩
theorem Wb.lst {n c k : Nat} {xs : List D} (h : ∀ x ∈ xs, Wb n c x) (hk : xs.length ≤ k) : Wb (n + 1) (k * (c + 1)) (.lst xs) := by
  obtain ⟨h1, h2, h3⟩ := wb_all h
  have s := Sh.lst (n := n) (xs := xs) fun x hx => ⟨(h x hx).can, (h x hx).dep⟩
  exact ⟨s.1, s.2, by show (PyData.list (pyL xs)).weight ≤ _; rw [PyData.weight]; exact Nat.le_trans h1 (Nat.mul_le_mul_right _ hk), by show (PyData.list (pyL xs)).leavesShort 60 = true; rw [PyData.leavesShort]; exact h2, by show (PyData.list (pyL xs)).showable = true; rw [PyData.showable]; exact h3⟩
theorem Wb.mono {n m c k : Nat} {d : D} (h : Wb n c d) (h1 : n ≤ m) (h2 : c ≤ k) : Wb m k d := ⟨h.can, Nat.le_trans h.dep h1, Nat.le_trans h.wt h2, h.sho, h.able⟩
theorem Wb.tup2 {n a b : Nat} {x y : D} (ha : Wb n a x) (hb : Wb n b y) : Wb (n + 1) (a + b + 2) (.tup [x, y]) := by
  have s := Sh.tup (n := n) (xs := [x, y]) fun u hu => by
    simp only [List.mem_cons, List.not_mem_nil, or_false] at hu
    rcases hu with rfl | rfl
    · exact ⟨ha.can, ha.dep⟩
    · exact ⟨hb.can, hb.dep⟩
  refine ⟨s.1, s.2, ?_, ?_, ?_⟩
  · show (PyData.tuple (pyL [x, y])).weight ≤ _
    simp only [pyL, PyData.weight, PyData.weightAll]
    have := ha.wt; have := hb.wt
    omega
  · show (PyData.tuple (pyL [x, y])).leavesShort 60 = true
    simp only [pyL, PyData.leavesShort, PyData.leavesShortAll, ha.sho, hb.sho, Bool.and_self]
  · show (PyData.tuple (pyL [x, y])).showable = true
    simp only [pyL, PyData.showable, PyData.showableAll, ha.able, hb.able, Bool.and_self]
theorem Wb.tup3 {n a b c : Nat} {x y z : D} (ha : Wb n a x) (hb : Wb n b y) (hc : Wb n c z) : Wb (n + 1) (a + b + c + 3) (.tup [x, y, z]) := by
  have s := Sh.tup (n := n) (xs := [x, y, z]) fun u hu => by
    simp only [List.mem_cons, List.not_mem_nil, or_false] at hu
    rcases hu with rfl | rfl | rfl
    · exact ⟨ha.can, ha.dep⟩
    · exact ⟨hb.can, hb.dep⟩
    · exact ⟨hc.can, hc.dep⟩
  refine ⟨s.1, s.2, ?_, ?_, ?_⟩
  · show (PyData.tuple (pyL [x, y, z])).weight ≤ _
    simp only [pyL, PyData.weight, PyData.weightAll]
    have := ha.wt; have := hb.wt; have := hc.wt
    omega
  · show (PyData.tuple (pyL [x, y, z])).leavesShort 60 = true
    simp only [pyL, PyData.leavesShort, PyData.leavesShortAll, ha.sho, hb.sho, hc.sho, Bool.and_self]
  · show (PyData.tuple (pyL [x, y, z])).showable = true
    simp only [pyL, PyData.showable, PyData.showableAll, ha.able, hb.able, hc.able, Bool.and_self]
theorem Wb.fits {n c : Nat} {d : D} (h : Wb n c d) (hc : c ≤ 2 ^ 18) : d.py.shown.length ≤ sizeLine := by
  have h2 := PyData.shown_le 60 (by decide) d.py h.sho
  have e : (2 : Nat) ^ 18 = 262144 := by decide
  have h3 : (60 + 2) * d.py.weight ≤ 62 * 262144 := Nat.mul_le_mul (by omega) (by have := h.wt; omega)
  rw [sizeLine_eq]
  omega
theorem reprX_b {n c : Nat} {xs : List D} (h : Wb n c (.tup xs)) (hn : n ≤ 60) (hc : c ≤ 2 ^ 18) : reprD (.tup xs) = some (.val (.str (D.py (.tup xs)).shown)) := if_pos ⟨h.can, h.able, Nat.le_trans h.dep hn, h.fits hc⟩
theorem reprX_bl' {n c : Nat} {xs : List D} (h : Wb n c (.lst xs)) (hn : n ≤ 60) (hc : c ≤ 2 ^ 18) : reprD (.lst xs) = some (.val (.str (D.py (.lst xs)).shown)) := if_pos ⟨h.can, h.able, Nat.le_trans h.dep hn, h.fits hc⟩
end Spl

namespace Spl
open PySem PySem.Spec L2
/-- a loop that returns at the first thing that is not right -/
theorem Ok_forB {tg : D → Rho → Rs Unit} {body : Rho → Rs Fl} {P : Fl → Rho → Prop} (I : Rho → Prop) (p : Nat → Bool) (ds : List D) (ρ : Rho) (h : I ρ)
    (hs : ∀ i d ρ, ds[i]? = some d → I ρ → (∀ j, j < i → p j = true) → Ok (tg d ρ) fun _ ρ1 => Ok (body ρ1) fun fl ρ' => if p i = true then fl = .nx ∧ I ρ' else ∃ r, fl = .rt r ∧ P (.rt r) ρ')
    (he : ∀ ρ, I ρ → (∀ i, i < ds.length → p i = true) → P .nx ρ) : Ok (forL tg body ds ρ) P := by
  refine Ok_forL (fun k ρ => I ρ ∧ ∀ j, j < k → p j = true) ds 0 ρ ⟨h, fun j hj => absurd hj (Nat.not_lt_zero j)⟩ ?_ ?_
  · rintro i d ρ hd ⟨h1, h2⟩
    rw [Nat.zero_add] at h2 ⊢
    rw [Ok_bind]
    refine (hs i d ρ hd h1 h2).mono fun _ ρ1 h3 => h3.mono fun fl ρ' h4 => ?_
    by_cases hp : p i = true
    · rw [if_pos hp] at h4
      refine .inl ⟨.inl h4.1, h4.2, fun j hj => ?_⟩
      rcases Nat.lt_succ_iff_lt_or_eq.mp hj with l | e
      · exact h2 j l
      · rw [e]; exact hp
    · rw [if_neg hp] at h4
      exact .inr (.inr h4)
  · rintro ρ ⟨h1, h2⟩
    rw [Nat.zero_add] at h2
    exact he ρ h1 h2
@[simp] theorem isi_tup_non : isiD "tuple" .non = some (.val (.bl false)) := rfl
@[simp] theorem isi_tup_int {i : Int} : isiD "tuple" (.int i) = some (.val (.bl false)) := rfl
@[simp] theorem isi_tup_bl {i : Bool} : isiD "tuple" (.bl i) = some (.val (.bl false)) := rfl
@[simp] theorem isi_tup_str {i : Str} : isiD "tuple" (.str i) = some (.val (.bl false)) := rfl
@[simp] theorem isi_tup_lst {i : List D} : isiD "tuple" (.lst i) = some (.val (.bl false)) := rfl
@[simp] theorem isi_int_non : isiD "int" .non = some (.val (.bl false)) := rfl
@[simp] theorem isi_int_bl {i : Bool} : isiD "int" (.bl i) = some (.val (.bl true)) := rfl
@[simp] theorem isi_int_str {i : Str} : isiD "int" (.str i) = some (.val (.bl false)) := rfl
@[simp] theorem isi_int_tup {i : List D} : isiD "int" (.tup i) = some (.val (.bl false)) := rfl
@[simp] theorem isi_int_lst {i : List D} : isiD "int" (.lst i) = some (.val (.bl false)) := rfl
@[simp] theorem isi_bool_bl {i : Bool} : isiD "bool" (.bl i) = some (.val (.bl true)) := rfl
end Spl

set_option maxHeartbeats 0
namespace Hd
open PySem PySem.Spec PyProof.Rows L2 Spl
def top (i : Nat) : Stmt := PySem.Challenge.pw_splitcorners_k35_whole_ladders_of_produc.main.body.getD i (.Pass ⟨0, 0, 0, 0⟩)
def d0 : He.DefD := ⟨("is_integer", none), "is_integer", "is_integer", defArgs (top 12), defBody (top 12), defScope (top 12), [], []⟩
def d1 : He.DefD := ⟨("check_row", none), "check_row", "check_row", defArgs (top 25), defBody (top 25), defScope (top 25), [], []⟩
def d2 : He.DefD := ⟨("is_bent", none), "is_bent", "is_bent", defArgs (top 28), defBody (top 28), defScope (top 28), [], []⟩
def d3 : He.DefD := ⟨("below", none), "below", "below", defArgs (top 27), defBody (top 27), defScope (top 27), [], []⟩
def d4 : He.DefD := ⟨("is_between", none), "is_between", "is_between", defArgs (top 13), defBody (top 13), defScope (top 13), [], []⟩
def d5 : He.DefD := ⟨("is_prime", none), "is_prime", "is_prime", defArgs (top 16), defBody (top 16), defScope (top 16), [], []⟩
def d6 : He.DefD := ⟨("height_of", none), "height_of", "height_of", defArgs (top 26), defBody (top 26), defScope (top 26), [], []⟩
def d7 : He.DefD := ⟨("told_by", none), "told_by", "told_by", defArgs (top 29), defBody (top 29), defScope (top 29), [], []⟩
def d8 : He.DefD := ⟨("product_of", none), "product_of", "product_of", defArgs (top 30), defBody (top 30), defScope (top 30), [], []⟩
def d9 : He.DefD := ⟨("multiplied", none), "multiplied", "multiplied", defArgs (top 31), defBody (top 31), defScope (top 31), [], []⟩
def d10 : He.DefD := ⟨("_law_multiplied", none), "_law_multiplied", "_law_multiplied", defArgs (top 40), defBody (top 40), defScope (top 40), [], []⟩
def d11 : He.DefD := ⟨("_law_pour", none), "_law_pour", "_law_pour", defArgs (top 34), defBody (top 34), defScope (top 34), [], []⟩
def d12 : He.DefD := ⟨("_law_pick", none), "_law_pick", "_law_pick", defArgs (top 35), defBody (top 35), defScope (top 35), [], []⟩
def d13 : He.DefD := ⟨("_law_row", none), "_law_row", "_law_row", defArgs (top 41), defBody (top 41), defScope (top 41), [], []⟩
def d14 : He.DefD := ⟨("is_pair", none), "is_pair", "is_pair", defArgs (top 14), defBody (top 14), defScope (top 14), [], []⟩
def d15 : He.DefD := ⟨("is_ladder", none), "is_ladder", "is_ladder", defArgs (top 18), defBody (top 18), defScope (top 18), [], []⟩
def d16 : He.DefD := ⟨("check_ladders", none), "check_ladders", "check_ladders", defArgs (top 19), defBody (top 19), defScope (top 19), [], []⟩
def d17 : He.DefD := ⟨("common", none), "common", "common", defArgs (top 15), defBody (top 15), defScope (top 15), [], []⟩
def d18 : He.DefD := ⟨("rungs_of", none), "rungs_of", "rungs_of", defArgs (top 20), defBody (top 20), defScope (top 20), [], []⟩
def d19 : He.DefD := ⟨("rungs", none), "rungs", "rungs", defArgs (top 22), defBody (top 22), defScope (top 22), [], []⟩
def d20 : He.DefD := ⟨("_law_widths", none), "_law_widths", "_law_widths", defArgs (top 42), defBody (top 42), defScope (top 42), [], []⟩
def d21 : He.DefD := ⟨("sums_of", none), "sums_of", "sums_of", defArgs (top 21), defBody (top 21), defScope (top 21), [], []⟩
def d22 : He.DefD := ⟨("sums", none), "sums", "sums", defArgs (top 23), defBody (top 23), defScope (top 23), [], []⟩
def d23 : He.DefD := ⟨("never_factors", none), "never_factors", "never_factors", defArgs (top 24), defBody (top 24), defScope (top 24), [], []⟩
def d24 : He.DefD := ⟨("_law_cross", none), "_law_cross", "_law_cross", defArgs (top 36), defBody (top 36), defScope (top 36), [], []⟩
def d25 : He.DefD := ⟨("_law_lower", none), "_law_lower", "_law_lower", defArgs (top 37), defBody (top 37), defScope (top 37), [], []⟩
def d26 : He.DefD := ⟨("_law_power", none), "_law_power", "_law_power", defArgs (top 38), defBody (top 38), defScope (top 38), [], []⟩
def d27 : He.DefD := ⟨("_law_climb", none), "_law_climb", "_law_climb", defArgs (top 39), defBody (top 39), defScope (top 39), [], []⟩
def d28 : He.DefD := ⟨("_law_right", none), "_law_right", "_law_right", defArgs (top 43), defBody (top 43), defScope (top 43), [], []⟩
def d29 : He.DefD := ⟨("_law_jug", none), "_law_jug", "_law_jug", defArgs (top 33), defBody (top 33), defScope (top 33), [], []⟩
def d30 : He.DefD := ⟨("law", none), "law", "law", defArgs (top 44), defBody (top 44), defScope (top 44), [], []⟩
def fn : List He.DefD := [d0, d1, d2, d3, d4, d5, d6, d7, d8, d9, d10, d11, d12, d13, d14, d15, d16, d17, d18, d19, d20, d21, d22, d23, d24, d25, d26, d27, d28, d29, d30]
def fa : List He.Fa := [.glo "is_integer", .glo "check_row", .glo "is_bent", .glo "below", .glo "is_between", .glo "is_prime", .glo "height_of", .glo "told_by", .glo "product_of", .glo "multiplied", .glo "_law_multiplied", .glo "_law_pour", .glo "_law_pick", .glo "_law_row", .glo "is_pair", .glo "is_ladder", .glo "check_ladders", .glo "common", .glo "rungs_of", .glo "rungs", .glo "_law_widths", .glo "sums_of", .glo "sums", .glo "never_factors", .glo "_law_cross", .glo "_law_lower", .glo "_law_power", .glo "_law_climb", .glo "_law_right", .glo "_law_jug", .glo "law", .free "abs", .free "all", .free "bool", .free "enumerate", .free "int", .free "isinstance", .free "len", .free "max", .free "min", .free "range", .free "repr", .free "set", .free "sorted", .free "tuple", .free "zip", .int "MOST_DEGREE" 500, .int "MOST_HEIGHT" 60, .int "MOST_LADDERS" 4, .int "MOST_PRIME" 997]
end Hd
namespace Hd
open PySem PySem.Spec PyProof.Rows L2 Spl
/-- what the head tells -/
structure Fx (w : World) (K : PySem.W.Frag) (mg : Str → Option Value) : Prop where
  c : He.SaysD fa fn K
  m : ∃ h : Heap, K.In h ∧ h.Ns mainGlobals mg
section
variable {P : Program} {w : World} {K : PySem.W.Frag} {mg : Str → Option Value} {base : Heap}
theorem g_is_integer (x : Fx w K mg) : mg "is_integer" = some (.ref (He.ga K "is_integer")) := let ⟨_, X, G⟩ := x.m; He.glo_ok X G (x.c.fact 0 (f := .glo "is_integer") rfl)
theorem g_check_row (x : Fx w K mg) : mg "check_row" = some (.ref (He.ga K "check_row")) := let ⟨_, X, G⟩ := x.m; He.glo_ok X G (x.c.fact 1 (f := .glo "check_row") rfl)
theorem g_is_bent (x : Fx w K mg) : mg "is_bent" = some (.ref (He.ga K "is_bent")) := let ⟨_, X, G⟩ := x.m; He.glo_ok X G (x.c.fact 2 (f := .glo "is_bent") rfl)
theorem g_below (x : Fx w K mg) : mg "below" = some (.ref (He.ga K "below")) := let ⟨_, X, G⟩ := x.m; He.glo_ok X G (x.c.fact 3 (f := .glo "below") rfl)
theorem g_is_between (x : Fx w K mg) : mg "is_between" = some (.ref (He.ga K "is_between")) := let ⟨_, X, G⟩ := x.m; He.glo_ok X G (x.c.fact 4 (f := .glo "is_between") rfl)
theorem g_is_prime (x : Fx w K mg) : mg "is_prime" = some (.ref (He.ga K "is_prime")) := let ⟨_, X, G⟩ := x.m; He.glo_ok X G (x.c.fact 5 (f := .glo "is_prime") rfl)
theorem g_height_of (x : Fx w K mg) : mg "height_of" = some (.ref (He.ga K "height_of")) := let ⟨_, X, G⟩ := x.m; He.glo_ok X G (x.c.fact 6 (f := .glo "height_of") rfl)
theorem g_told_by (x : Fx w K mg) : mg "told_by" = some (.ref (He.ga K "told_by")) := let ⟨_, X, G⟩ := x.m; He.glo_ok X G (x.c.fact 7 (f := .glo "told_by") rfl)
theorem g_product_of (x : Fx w K mg) : mg "product_of" = some (.ref (He.ga K "product_of")) := let ⟨_, X, G⟩ := x.m; He.glo_ok X G (x.c.fact 8 (f := .glo "product_of") rfl)
theorem g_multiplied (x : Fx w K mg) : mg "multiplied" = some (.ref (He.ga K "multiplied")) := let ⟨_, X, G⟩ := x.m; He.glo_ok X G (x.c.fact 9 (f := .glo "multiplied") rfl)
theorem g__law_multiplied (x : Fx w K mg) : mg "_law_multiplied" = some (.ref (He.ga K "_law_multiplied")) := let ⟨_, X, G⟩ := x.m; He.glo_ok X G (x.c.fact 10 (f := .glo "_law_multiplied") rfl)
theorem g__law_pour (x : Fx w K mg) : mg "_law_pour" = some (.ref (He.ga K "_law_pour")) := let ⟨_, X, G⟩ := x.m; He.glo_ok X G (x.c.fact 11 (f := .glo "_law_pour") rfl)
theorem g__law_pick (x : Fx w K mg) : mg "_law_pick" = some (.ref (He.ga K "_law_pick")) := let ⟨_, X, G⟩ := x.m; He.glo_ok X G (x.c.fact 12 (f := .glo "_law_pick") rfl)
theorem g__law_row (x : Fx w K mg) : mg "_law_row" = some (.ref (He.ga K "_law_row")) := let ⟨_, X, G⟩ := x.m; He.glo_ok X G (x.c.fact 13 (f := .glo "_law_row") rfl)
theorem g_is_pair (x : Fx w K mg) : mg "is_pair" = some (.ref (He.ga K "is_pair")) := let ⟨_, X, G⟩ := x.m; He.glo_ok X G (x.c.fact 14 (f := .glo "is_pair") rfl)
theorem g_is_ladder (x : Fx w K mg) : mg "is_ladder" = some (.ref (He.ga K "is_ladder")) := let ⟨_, X, G⟩ := x.m; He.glo_ok X G (x.c.fact 15 (f := .glo "is_ladder") rfl)
theorem g_check_ladders (x : Fx w K mg) : mg "check_ladders" = some (.ref (He.ga K "check_ladders")) := let ⟨_, X, G⟩ := x.m; He.glo_ok X G (x.c.fact 16 (f := .glo "check_ladders") rfl)
theorem g_common (x : Fx w K mg) : mg "common" = some (.ref (He.ga K "common")) := let ⟨_, X, G⟩ := x.m; He.glo_ok X G (x.c.fact 17 (f := .glo "common") rfl)
theorem g_rungs_of (x : Fx w K mg) : mg "rungs_of" = some (.ref (He.ga K "rungs_of")) := let ⟨_, X, G⟩ := x.m; He.glo_ok X G (x.c.fact 18 (f := .glo "rungs_of") rfl)
theorem g_rungs (x : Fx w K mg) : mg "rungs" = some (.ref (He.ga K "rungs")) := let ⟨_, X, G⟩ := x.m; He.glo_ok X G (x.c.fact 19 (f := .glo "rungs") rfl)
theorem g__law_widths (x : Fx w K mg) : mg "_law_widths" = some (.ref (He.ga K "_law_widths")) := let ⟨_, X, G⟩ := x.m; He.glo_ok X G (x.c.fact 20 (f := .glo "_law_widths") rfl)
theorem g_sums_of (x : Fx w K mg) : mg "sums_of" = some (.ref (He.ga K "sums_of")) := let ⟨_, X, G⟩ := x.m; He.glo_ok X G (x.c.fact 21 (f := .glo "sums_of") rfl)
theorem g_sums (x : Fx w K mg) : mg "sums" = some (.ref (He.ga K "sums")) := let ⟨_, X, G⟩ := x.m; He.glo_ok X G (x.c.fact 22 (f := .glo "sums") rfl)
theorem g_never_factors (x : Fx w K mg) : mg "never_factors" = some (.ref (He.ga K "never_factors")) := let ⟨_, X, G⟩ := x.m; He.glo_ok X G (x.c.fact 23 (f := .glo "never_factors") rfl)
theorem g__law_cross (x : Fx w K mg) : mg "_law_cross" = some (.ref (He.ga K "_law_cross")) := let ⟨_, X, G⟩ := x.m; He.glo_ok X G (x.c.fact 24 (f := .glo "_law_cross") rfl)
theorem g__law_lower (x : Fx w K mg) : mg "_law_lower" = some (.ref (He.ga K "_law_lower")) := let ⟨_, X, G⟩ := x.m; He.glo_ok X G (x.c.fact 25 (f := .glo "_law_lower") rfl)
theorem g__law_power (x : Fx w K mg) : mg "_law_power" = some (.ref (He.ga K "_law_power")) := let ⟨_, X, G⟩ := x.m; He.glo_ok X G (x.c.fact 26 (f := .glo "_law_power") rfl)
theorem g__law_climb (x : Fx w K mg) : mg "_law_climb" = some (.ref (He.ga K "_law_climb")) := let ⟨_, X, G⟩ := x.m; He.glo_ok X G (x.c.fact 27 (f := .glo "_law_climb") rfl)
theorem g__law_right (x : Fx w K mg) : mg "_law_right" = some (.ref (He.ga K "_law_right")) := let ⟨_, X, G⟩ := x.m; He.glo_ok X G (x.c.fact 28 (f := .glo "_law_right") rfl)
theorem g__law_jug (x : Fx w K mg) : mg "_law_jug" = some (.ref (He.ga K "_law_jug")) := let ⟨_, X, G⟩ := x.m; He.glo_ok X G (x.c.fact 29 (f := .glo "_law_jug") rfl)
theorem g_law (x : Fx w K mg) : mg "law" = some (.ref (He.ga K "law")) := let ⟨_, X, G⟩ := x.m; He.glo_ok X G (x.c.fact 30 (f := .glo "law") rfl)
theorem n_abs (x : Fx w K mg) : mg "abs" = none := let ⟨_, X, G⟩ := x.m; He.free_ok X G (x.c.fact 31 (f := .free "abs") rfl)
theorem n_all (x : Fx w K mg) : mg "all" = none := let ⟨_, X, G⟩ := x.m; He.free_ok X G (x.c.fact 32 (f := .free "all") rfl)
theorem n_bool (x : Fx w K mg) : mg "bool" = none := let ⟨_, X, G⟩ := x.m; He.free_ok X G (x.c.fact 33 (f := .free "bool") rfl)
theorem n_enumerate (x : Fx w K mg) : mg "enumerate" = none := let ⟨_, X, G⟩ := x.m; He.free_ok X G (x.c.fact 34 (f := .free "enumerate") rfl)
theorem n_int (x : Fx w K mg) : mg "int" = none := let ⟨_, X, G⟩ := x.m; He.free_ok X G (x.c.fact 35 (f := .free "int") rfl)
theorem n_isinstance (x : Fx w K mg) : mg "isinstance" = none := let ⟨_, X, G⟩ := x.m; He.free_ok X G (x.c.fact 36 (f := .free "isinstance") rfl)
theorem n_len (x : Fx w K mg) : mg "len" = none := let ⟨_, X, G⟩ := x.m; He.free_ok X G (x.c.fact 37 (f := .free "len") rfl)
theorem n_max (x : Fx w K mg) : mg "max" = none := let ⟨_, X, G⟩ := x.m; He.free_ok X G (x.c.fact 38 (f := .free "max") rfl)
theorem n_min (x : Fx w K mg) : mg "min" = none := let ⟨_, X, G⟩ := x.m; He.free_ok X G (x.c.fact 39 (f := .free "min") rfl)
theorem n_range (x : Fx w K mg) : mg "range" = none := let ⟨_, X, G⟩ := x.m; He.free_ok X G (x.c.fact 40 (f := .free "range") rfl)
theorem n_repr (x : Fx w K mg) : mg "repr" = none := let ⟨_, X, G⟩ := x.m; He.free_ok X G (x.c.fact 41 (f := .free "repr") rfl)
theorem n_set (x : Fx w K mg) : mg "set" = none := let ⟨_, X, G⟩ := x.m; He.free_ok X G (x.c.fact 42 (f := .free "set") rfl)
theorem n_sorted (x : Fx w K mg) : mg "sorted" = none := let ⟨_, X, G⟩ := x.m; He.free_ok X G (x.c.fact 43 (f := .free "sorted") rfl)
theorem n_tuple (x : Fx w K mg) : mg "tuple" = none := let ⟨_, X, G⟩ := x.m; He.free_ok X G (x.c.fact 44 (f := .free "tuple") rfl)
theorem n_zip (x : Fx w K mg) : mg "zip" = none := let ⟨_, X, G⟩ := x.m; He.free_ok X G (x.c.fact 45 (f := .free "zip") rfl)
theorem c_MOST_DEGREE (x : Fx w K mg) : ∃ t, mg "MOST_DEGREE" = some (.int 500 t) := let ⟨_, X, G⟩ := x.m; He.int_ok X G (x.c.fact 46 (f := .int "MOST_DEGREE" 500) rfl)
theorem c_MOST_HEIGHT (x : Fx w K mg) : ∃ t, mg "MOST_HEIGHT" = some (.int 60 t) := let ⟨_, X, G⟩ := x.m; He.int_ok X G (x.c.fact 47 (f := .int "MOST_HEIGHT" 60) rfl)
theorem c_MOST_LADDERS (x : Fx w K mg) : ∃ t, mg "MOST_LADDERS" = some (.int 4 t) := let ⟨_, X, G⟩ := x.m; He.int_ok X G (x.c.fact 48 (f := .int "MOST_LADDERS" 4) rfl)
theorem c_MOST_PRIME (x : Fx w K mg) : ∃ t, mg "MOST_PRIME" = some (.int 997 t) := let ⟨_, X, G⟩ := x.m; He.int_ok X G (x.c.fact 49 (f := .int "MOST_PRIME" 997) rfl)
noncomputable def fd_is_integer (x : Fx w K mg) : FuncData := Classical.choose (x.c.def_ 0 (d := d0) rfl)
theorem D_is_integer (x : Fx w K mg) : FunD K "is_integer" "is_integer" (defArgs (top 12)) (defBody (top 12)) (defScope (top 12)) [] [] (He.ga K "is_integer") (fd_is_integer x) := Classical.choose_spec (x.c.def_ 0 (d := d0) rfl)
theorem B_is_integer (x : Fx w K mg) : Binds K (fd_is_integer x) ["value"] [] := (D_is_integer x).bindsN fun _ _ _ _ _ _ us hl => match us, hl with | [_], _ => rfl
theorem sc_is_integer : FnScope ["value"] ["value"] (defScope (top 12)) := ⟨rfl, rfl, rfl, by decide +kernel, rfl, by decide +kernel, by decide +kernel⟩
noncomputable def b_is_integer : Rho → Rs Fl := (stRet (evAnd (ev1 (isiD "int") (evV 0)) (evNot (ev1 (isiD "bool") (evV 0)))))
noncomputable def F_is_integer : Fn := fnOf [] 1 1 b_is_integer
theorem ok_is_integer (x : Fx w K mg) : FnG P w K mg base 1 (He.ga K "is_integer") (fd_is_integer x) ["value"] (spF K F_is_integer) := FnG.ev (N := ["value"]) (io := []) (D_is_integer x) sc_is_integer rfl rfl fun cd A outer s H E hr hg =>
  (SSs_one (SSt_ret (SE_and (SE_isi (T := "int") rfl (n_isinstance x) bt_isinstance rfl (n_int x) bt_int (SE_var (i := 0) rfl (.inl rfl) rfl rfl) (by decide) rfl (by decide) rfl rfl rfl rfl) (SE_one (SE_not (SE_isi (T := "bool") rfl (n_isinstance x) bt_isinstance rfl (n_bool x) bt_bool (SE_var (i := 0) rfl (.inl rfl) rfl rfl) (by decide) rfl (by decide) rfl rfl rfl rfl))))))
noncomputable def fd_check_row (x : Fx w K mg) : FuncData := Classical.choose (x.c.def_ 1 (d := d1) rfl)
theorem D_check_row (x : Fx w K mg) : FunD K "check_row" "check_row" (defArgs (top 25)) (defBody (top 25)) (defScope (top 25)) [] [] (He.ga K "check_row") (fd_check_row x) := Classical.choose_spec (x.c.def_ 1 (d := d1) rfl)
theorem B_check_row (x : Fx w K mg) : Binds K (fd_check_row x) ["value", "least"] [] := (D_check_row x).bindsN fun _ _ _ _ _ _ us hl => match us, hl with | [_, _], _ => rfl
theorem sc_check_row : FnScope ["value", "least", "index", "number"] ["value", "least"] (defScope (top 25)) := ⟨rfl, rfl, rfl, by decide +kernel, rfl, by decide +kernel, by decide +kernel⟩
noncomputable def b_check_row : Rho → Rs Fl := (stSeq (stIf (teOr (teNot (te (ev1 (isiD "tuple") (evV 0)))) (asT (ev2 ltD (evB (op1 lenD) (arCons (evV 0) arNil)) (evV 1))))
  (fun _ => .stuck)
  stNx)
  (stFor (itEnumA (evCons [] (evV 0) evNil)) (tgTup 2 (tgCons (tgName [] 2) (tgCons (tgName [] 3) tgNil)))
  (stIf (teOr (asT (ev2 gtD (evV 2) (evC (.int 500)))) (teOr (teNot (te (evCall F_is_integer [] (aDat [] (evV 3) aNil)))) (teAnd (asT (ev2 eqD (evV 3) (evC (.int 0)))) (asT (ev2 inXT (evV 2) (evTup (evCons [] (evC (.int 0)) (evCons [] (ev2 subD (evB (op1 lenD) (arCons (evV 0) arNil)) (evC (.int 1))) evNil))))))))
  (fun _ => .stuck)
  stNx)))
noncomputable def F_check_row : Fn := fnOf [] 2 4 b_check_row
theorem ok_check_row (x : Fx w K mg) : FnG P w K mg base 2 (He.ga K "check_row") (fd_check_row x) ["value", "least"] (spF K F_check_row) := FnG.ev (N := ["value", "least", "index", "number"]) (io := []) (D_check_row x) sc_check_row rfl rfl fun cd A outer s H E hr hg =>
  (SSs_cons (SSt_if (SW.t (SW_or (ST_not (ST_truth (SE_isi (T := "tuple") rfl (n_isinstance x) bt_isinstance rfl (n_tuple x) bt_tuple (SE_var (i := 0) rfl (.inl rfl) rfl rfl) (by decide) rfl (by decide) rfl rfl rfl rfl) (fun _ => rfl))) (SW_or1 (ST_cmp (op_ltD hr.units0) (SE_callB c_len rfl (n_len x) bt_len (SR_cons (SE_var (i := 0) rfl (.inl rfl) rfl rfl) SR_nil rfl) (by decide) rfl rfl rfl) (SE_var (i := 1) rfl (.inl rfl) rfl rfl) rfl))))
  (SSs_one SSt_never)
  SSs_nil)
  (SSs_one (SSt_for (L := [2, 3]) (passes_of rfl) rfl (SI_enum rfl (n_enumerate x) (SL_cons (SE_var (i := 0) rfl (.inl rfl) rfl rfl) SL_nil rfl) rfl) (SG_tup rfl (SGs_cons (SG_name (i := 2) (by decide) sc_check_row.nd rfl (.inl rfl) (.inl rfl)) (SGs_cons (SG_name (i := 3) (by decide) sc_check_row.nd rfl (.inl rfl) (.inl rfl)) SGs_nil rfl) rfl) rfl rfl)
  (SSs_one (SSt_if (SW.t (SW_or (ST_cmp op_gtD (SE_var (i := 2) rfl (.inl rfl) rfl rfl) (SE_gint (i := 500) rfl (c_MOST_DEGREE x) rfl) rfl) (SW_or (ST_not (ST_truth (SE_call (ok_is_integer x) (hr.mono (by decide)) hg (takes_of rfl rfl rfl rfl) rfl (g_is_integer x) (D_is_integer x).kp (B_is_integer x) .nil RepDef.nil (SA_dat (SE_var (i := 3) rfl (.inl rfl) rfl rfl) SA_nil rfl) rfl rfl rfl) (fun _ => rfl))) (SW_or1 (SW.t (SW_and (ST_cmp (op_eqDD hr.units) (SE_var (i := 3) rfl (.inl rfl) rfl rfl) SE_int rfl) (SW_and1 (ST_cmp (op_inXT (room65 hr)) (SE_var (i := 2) rfl (.inl rfl) rfl rfl) (SE_tup (SL_cons SE_int (SL_cons (SE_bin op_subD (SE_callB c_len rfl (n_len x) bt_len (SR_cons (SE_var (i := 0) rfl (.inl rfl) rfl rfl) SR_nil rfl) (by decide) rfl rfl rfl) SE_int) SL_nil rfl) rfl)) rfl))))))))
  (SSs_one SSt_never)
  SSs_nil)) (fun _ => rfl))))
noncomputable def fd_is_bent (x : Fx w K mg) : FuncData := Classical.choose (x.c.def_ 2 (d := d2) rfl)
theorem D_is_bent (x : Fx w K mg) : FunD K "is_bent" "is_bent" (defArgs (top 28)) (defBody (top 28)) (defScope (top 28)) [] [] (He.ga K "is_bent") (fd_is_bent x) := Classical.choose_spec (x.c.def_ 2 (d := d2) rfl)
theorem B_is_bent (x : Fx w K mg) : Binds K (fd_is_bent x) ["first", "middle", "last"] [] := (D_is_bent x).bindsN fun _ _ _ _ _ _ us hl => match us, hl with | [_, _, _], _ => rfl
theorem sc_is_bent : FnScope ["first", "middle", "last"] ["first", "middle", "last"] (defScope (top 28)) := ⟨rfl, rfl, rfl, by decide +kernel, rfl, by decide +kernel, by decide +kernel⟩
noncomputable def b_is_bent : Rho → Rs Fl := (stRet (ev2 geD (ev2 mulD (ev2 subD (ev2 ixDD (evV 1) (evC (.int 1))) (ev2 ixDD (evV 0) (evC (.int 1)))) (ev2 subD (ev2 ixDD (evV 2) (evC (.int 0))) (ev2 ixDD (evV 0) (evC (.int 0))))) (ev2 mulD (ev2 subD (ev2 ixDD (evV 2) (evC (.int 1))) (ev2 ixDD (evV 0) (evC (.int 1)))) (ev2 subD (ev2 ixDD (evV 1) (evC (.int 0))) (ev2 ixDD (evV 0) (evC (.int 0)))))))
noncomputable def F_is_bent : Fn := fnOf [] 3 3 b_is_bent
theorem ok_is_bent (x : Fx w K mg) : FnG P w K mg base 1 (He.ga K "is_bent") (fd_is_bent x) ["first", "middle", "last"] (spF K F_is_bent) := FnG.ev (N := ["first", "middle", "last"]) (io := []) (D_is_bent x) sc_is_bent rfl rfl fun cd A outer s H E hr hg =>
  (SSs_one (SSt_ret (SE_cmp op_geD (SE_bin op_mulD (SE_bin op_subD (SE_ix (ix_DD (hu_of hr)) (SE_var (i := 1) rfl (.inl rfl) rfl rfl) SE_int (fun _ _ => rfl)) (SE_ix (ix_DD (hu_of hr)) (SE_var (i := 0) rfl (.inl rfl) rfl rfl) SE_int (fun _ _ => rfl))) (SE_bin op_subD (SE_ix (ix_DD (hu_of hr)) (SE_var (i := 2) rfl (.inl rfl) rfl rfl) SE_int (fun _ _ => rfl)) (SE_ix (ix_DD (hu_of hr)) (SE_var (i := 0) rfl (.inl rfl) rfl rfl) SE_int (fun _ _ => rfl)))) (SE_bin op_mulD (SE_bin op_subD (SE_ix (ix_DD (hu_of hr)) (SE_var (i := 2) rfl (.inl rfl) rfl rfl) SE_int (fun _ _ => rfl)) (SE_ix (ix_DD (hu_of hr)) (SE_var (i := 0) rfl (.inl rfl) rfl rfl) SE_int (fun _ _ => rfl))) (SE_bin op_subD (SE_ix (ix_DD (hu_of hr)) (SE_var (i := 1) rfl (.inl rfl) rfl rfl) SE_int (fun _ _ => rfl)) (SE_ix (ix_DD (hu_of hr)) (SE_var (i := 0) rfl (.inl rfl) rfl rfl) SE_int (fun _ _ => rfl)))) rfl)))
noncomputable def fd_below (x : Fx w K mg) : FuncData := Classical.choose (x.c.def_ 3 (d := d3) rfl)
theorem D_below (x : Fx w K mg) : FunD K "below" "below" (defArgs (top 27)) (defBody (top 27)) (defScope (top 27)) [] [] (He.ga K "below") (fd_below x) := Classical.choose_spec (x.c.def_ 3 (d := d3) rfl)
theorem B_below (x : Fx w K mg) : Binds K (fd_below x) ["points"] [] := (D_below x).bindsN fun _ _ _ _ _ _ us hl => match us, hl with | [_], _ => rfl
theorem sc_below : FnScope ["points", "found", "place"] ["points"] (defScope (top 27)) := ⟨rfl, rfl, rfl, by decide +kernel, rfl, by decide +kernel, by decide +kernel⟩
noncomputable def b_below : Rho → Rs Fl := (stSeq (stSet [] 1 (evLst evNil))
  (stSeq (stFor (itSeq [] (evV 0)) (tgName [] 2)
  (stSeq (stWhile (teAnd (asT (ev2 gtD (evB (op1 lenD) (arCons (evV 1) arNil)) (evC (.int 1)))) (te (evCall F_is_bent [] (aDat [] (ev2 ixDD (evV 1) (ev1 negD (evC (.int 2)))) (aDat [] (ev2 ixDD (evV 1) (ev1 negD (evC (.int 1)))) (aDat [] (evV 2) aNil))))))
  (stExpr (evMut 1 W.isLst popW evNil)))
  (stExpr (evMut 1 W.isLst appendW (evCons [] (evV 2) evNil)))))
  (stRet (evB (op1 tupleD) (arCons (evV 1) arNil)))))
noncomputable def F_below : Fn := fnOf [] 1 3 b_below
theorem ok_below (x : Fx w K mg) : FnG P w K mg base 2 (He.ga K "below") (fd_below x) ["points"] (spF K F_below) := FnG.ev (N := ["points", "found", "place"]) (io := []) (D_below x) sc_below rfl rfl fun cd A outer s H E hr hg =>
  (SSs_cons (SSt_set (i := 1) sc_below.nd rfl (.inl rfl) (SE_lst SL_nil) rfl (.inl rfl))
  (SSs_cons (SSt_for (L := [2]) (passes_of rfl) rfl (SI_seq (SE_var (i := 0) rfl (.inl rfl) rfl rfl)) (SG_name (i := 2) (by decide) sc_below.nd rfl (.inl rfl) (.inl rfl))
  (SSs_cons (SSt_while (passes_of rfl) (SW.t (SW_and (ST_cmp op_gtD (SE_callB c_len rfl (n_len x) bt_len (SR_cons (SE_var (i := 1) rfl (.inl rfl) rfl rfl) SR_nil rfl) (by decide) rfl rfl rfl) SE_int rfl) (SW_and1 (ST_truth (SE_call (ok_is_bent x) (hr.mono (by decide)) hg (takes_of rfl rfl rfl rfl) rfl (g_is_bent x) (D_is_bent x).kp (B_is_bent x) .nil RepDef.nil (SA_dat (SE_ix (ix_DD (hu_of hr)) (SE_var (i := 1) rfl (.inl rfl) rfl rfl) (SE_un un_negD SE_int) (fun _ _ => rfl)) (SA_dat (SE_ix (ix_DD (hu_of hr)) (SE_var (i := 1) rfl (.inl rfl) rfl rfl) (SE_un un_negD SE_int) (fun _ _ => rfl)) (SA_dat (SE_var (i := 2) rfl (.inl rfl) rfl rfl) SA_nil rfl) rfl) rfl) rfl rfl rfl) (fun _ => rfl)))))
  (SSs_one (SSt_expr (SE_mut0 mut_pop PySem.F.plainAttrs_list PySem.F.slot_list_pop PySem.F.type_list_pop mt_pop (pe_var (i := 1) rfl (.inl rfl) rfl rfl) rfl rfl) rfl)))
  (SSs_one (SSt_expr (SE_mut mut_append PySem.F.plainAttrs_list PySem.F.slot_list_append PySem.F.type_list_append mt_append (pe_var (i := 1) rfl (.inl rfl) rfl rfl) (SL_cons (SE_var (i := 2) rfl (.inl rfl) rfl rfl) SL_nil rfl) rfl rfl rfl rfl rfl) rfl))) (fun _ => rfl))
  (SSs_one (SSt_ret (SE_callTy c_tuple rfl (n_tuple x) bt_tuple (SR_cons (SE_var (i := 1) rfl (.inl rfl) rfl rfl) SR_nil rfl) (by decide) rfl rfl rfl)))))
noncomputable def fd_is_between (x : Fx w K mg) : FuncData := Classical.choose (x.c.def_ 4 (d := d4) rfl)
theorem D_is_between (x : Fx w K mg) : FunD K "is_between" "is_between" (defArgs (top 13)) (defBody (top 13)) (defScope (top 13)) [] [] (He.ga K "is_between") (fd_is_between x) := Classical.choose_spec (x.c.def_ 4 (d := d4) rfl)
theorem B_is_between (x : Fx w K mg) : Binds K (fd_is_between x) ["value", "least", "most"] [] := (D_is_between x).bindsN fun _ _ _ _ _ _ us hl => match us, hl with | [_, _, _], _ => rfl
theorem sc_is_between : FnScope ["value", "least", "most"] ["value", "least", "most"] (defScope (top 13)) := ⟨rfl, rfl, rfl, by decide +kernel, rfl, by decide +kernel, by decide +kernel⟩
noncomputable def b_is_between : Rho → Rs Fl := (stRet (evAnd (evCall F_is_integer [] (aDat [] (evV 0) aNil)) (ev3 leD leD (evV 1) (evV 0) (evV 2))))
noncomputable def F_is_between : Fn := fnOf [] 3 3 b_is_between
theorem ok_is_between (x : Fx w K mg) : FnG P w K mg base 2 (He.ga K "is_between") (fd_is_between x) ["value", "least", "most"] (spF K F_is_between) := FnG.ev (N := ["value", "least", "most"]) (io := []) (D_is_between x) sc_is_between rfl rfl fun cd A outer s H E hr hg =>
  (SSs_one (SSt_ret (SE_and (SE_call (ok_is_integer x) (hr.mono (by decide)) hg (takes_of rfl rfl rfl rfl) rfl (g_is_integer x) (D_is_integer x).kp (B_is_integer x) .nil RepDef.nil (SA_dat (SE_var (i := 0) rfl (.inl rfl) rfl rfl) SA_nil rfl) rfl rfl rfl) (SE_one (SE_chain op_leD op_leD (SE_var (i := 1) rfl (.inl rfl) rfl rfl) (SE_var (i := 0) rfl (.inl rfl) rfl rfl) (SE_var (i := 2) rfl (.inl rfl) rfl rfl) rfl)))))
noncomputable def fd_is_prime (x : Fx w K mg) : FuncData := Classical.choose (x.c.def_ 5 (d := d5) rfl)
theorem D_is_prime (x : Fx w K mg) : FunD K "is_prime" "is_prime" (defArgs (top 16)) (defBody (top 16)) (defScope (top 16)) [] [] (He.ga K "is_prime") (fd_is_prime x) := Classical.choose_spec (x.c.def_ 5 (d := d5) rfl)
theorem B_is_prime (x : Fx w K mg) : Binds K (fd_is_prime x) ["value"] [] := (D_is_prime x).bindsN fun _ _ _ _ _ _ us hl => match us, hl with | [_], _ => rfl
theorem sc_is_prime : FnScope ["value", "part"] ["value"] (defScope (top 16)) := ⟨rfl, rfl, rfl, by decide +kernel, rfl, by decide +kernel, by decide +kernel⟩
noncomputable def b_is_prime : Rho → Rs Fl := (stSeq (stIf (teNot (te (evCall F_is_between [] (aDat [] (evV 0) (aDat [] (evC (.int 2)) (aDat [] (evC (.int 997)) aNil))))))
  (stRet (evC (.bl false)))
  stNx)
  (stRet (evB (op1 allD) (arCons (evLc [] [1] (itR2 (evC (.int 2)) (evC (.int 32))) (tgName [] 1) (asT (ev2 ltD (evV 1) (evV 0))) (ev2 gtD (ev2 modD (evV 0) (evV 1)) (evC (.int 0)))) arNil))))
noncomputable def F_is_prime : Fn := fnOf [] 1 2 b_is_prime
theorem ok_is_prime (x : Fx w K mg) : FnG P w K mg base 3 (He.ga K "is_prime") (fd_is_prime x) ["value"] (spF K F_is_prime) := FnG.ev (N := ["value", "part"]) (io := []) (D_is_prime x) sc_is_prime rfl rfl fun cd A outer s H E hr hg =>
  (SSs_cons (SSt_if (ST_not (ST_truth (SE_call (ok_is_between x) (hr.mono (by decide)) hg (takes_of rfl rfl rfl rfl) rfl (g_is_between x) (D_is_between x).kp (B_is_between x) .nil RepDef.nil (SA_dat (SE_var (i := 0) rfl (.inr (.inl rfl)) rfl rfl) (SA_dat SE_int (SA_dat (SE_gint (i := 997) rfl (c_MOST_PRIME x) rfl) SA_nil rfl) rfl) rfl) rfl rfl rfl) (fun _ => rfl)))
  (SSs_one (SSt_ret SE_bl))
  SSs_nil)
  (SSs_one (SSt_ret (SE_callB (c_all rfl) rfl (n_all x) bt_all (SR_cons (SE_lc (own := [("part", 1)]) rfl sc_is_prime.nd (SI_range2 rfl (n_range x) SE_int SE_int rfl rfl) (blkOk_by (own := [("part", 1)]) (by kernel_rfl)) (fun _ _ _ _ _ => (SG_name (i := 1) (by decide) sc_is_prime.nd rfl (.inl rfl) (.inr rfl))) (fun _ _ _ _ _ => (STs_one (ST_cmp (op_ltD hr.units0) (SE_var (i := 1) rfl (.inl rfl) rfl rfl) (SE_var (i := 0) rfl (.inr (.inl rfl)) rfl rfl) rfl))) (fun _ _ _ _ _ => (SE_cmp op_gtD (SE_bin op_modD (SE_var (i := 0) rfl (.inr (.inl rfl)) rfl rfl) (SE_var (i := 1) rfl (.inl rfl) rfl rfl)) SE_int rfl)) (fun _ => rfl)) SR_nil rfl) (by decide) rfl rfl rfl))))
noncomputable def fd_height_of (x : Fx w K mg) : FuncData := Classical.choose (x.c.def_ 6 (d := d6) rfl)
theorem D_height_of (x : Fx w K mg) : FunD K "height_of" "height_of" (defArgs (top 26)) (defBody (top 26)) (defScope (top 26)) [] [] (He.ga K "height_of") (fd_height_of x) := Classical.choose_spec (x.c.def_ 6 (d := d6) rfl)
theorem B_height_of (x : Fx w K mg) : Binds K (fd_height_of x) ["number", "prime"] [] := (D_height_of x).bindsN fun _ _ _ _ _ _ us hl => match us, hl with | [_, _], _ => rfl
theorem sc_height_of : FnScope ["number", "prime", "found"] ["number", "prime"] (defScope (top 26)) := ⟨rfl, rfl, rfl, by decide +kernel, rfl, by decide +kernel, by decide +kernel⟩
noncomputable def b_height_of : Rho → Rs Fl := (stSeq (stSet [] 2 (evC (.int 0)))
  (stSeq (stWhile (asT (ev2 eqD (ev2 modD (evV 0) (evV 1)) (evC (.int 0))))
  (stPar [] [0, 2] (seCons [] (ev2 fdivD (evV 0) (evV 1)) (seCons [] (ev2 addD (evV 2) (evC (.int 1))) arNil))))
  (stRet (evV 2))))
noncomputable def F_height_of : Fn := fnOf [] 2 3 b_height_of
theorem ok_height_of (x : Fx w K mg) : FnG P w K mg base 1 (He.ga K "height_of") (fd_height_of x) ["number", "prime"] (spF K F_height_of) := FnG.ev (N := ["number", "prime", "found"]) (io := []) (D_height_of x) sc_height_of rfl rfl fun cd A outer s H E hr hg =>
  (SSs_cons (SSt_set (i := 2) sc_height_of.nd rfl (.inl rfl) SE_int rfl (.inl rfl))
  (SSs_cons (SSt_while (passes_of rfl) (ST_cmp (op_eqDD hr.units) (SE_bin op_modD (SE_var (i := 0) rfl (.inl rfl) rfl rfl) (SE_var (i := 1) rfl (.inl rfl) rfl rfl)) SE_int rfl)
  (SSs_one (SSt_par (i := 0) (j := 2) rfl sc_height_of.nd rfl rfl (by decide) rfl rfl (SSet_cons (SE_bin op_fdivD (SE_var (i := 0) rfl (.inl rfl) rfl rfl) (SE_var (i := 1) rfl (.inl rfl) rfl rfl)) (SSet_cons (SE_bin op_addD (SE_var (i := 2) rfl (.inl rfl) rfl rfl) SE_int) SSet_nil rfl) rfl) rfl rfl)))
  (SSs_one (SSt_ret (SE_var (i := 2) rfl (.inl rfl) rfl rfl)))))
noncomputable def fd_told_by (x : Fx w K mg) : FuncData := Classical.choose (x.c.def_ 7 (d := d7) rfl)
theorem D_told_by (x : Fx w K mg) : FunD K "told_by" "told_by" (defArgs (top 29)) (defBody (top 29)) (defScope (top 29)) [] [] (He.ga K "told_by") (fd_told_by x) := Classical.choose_spec (x.c.def_ 7 (d := d7) rfl)
theorem B_told_by (x : Fx w K mg) : Binds K (fd_told_by x) ["row", "prime"] [] := (D_told_by x).bindsN fun _ _ _ _ _ _ us hl => match us, hl with | [_, _], _ => rfl
theorem sc_told_by : FnScope ["row", "prime", "points", "least", "ladder", "degree", "number", "height"] ["row", "prime"] (defScope (top 29)) := ⟨rfl, rfl, rfl, by decide +kernel, rfl, by decide +kernel, by decide +kernel⟩
noncomputable def b_told_by : Rho → Rs Fl := (stSeq (stExpr (evCall F_check_row [] (aDat [] (evV 0) (aDat [] (evC (.int 2)) aNil))))
  (stSeq (stIf (teNot (te (evCall F_is_prime [] (aDat [] (evV 1) aNil))))
  (fun _ => .stuck)
  stNx)
  (stSeq (stSet [] 2 (evLc [] [5, 6] (itEnumA (evCons [] (evV 0) evNil)) (tgTup 2 (tgCons (tgName [] 5) (tgCons (tgName [] 6) tgNil))) (asT (ev2 neD (evV 6) (evC (.int 0)))) (evTup (evCons [] (evV 5) (evCons [] (evCall F_height_of [] (aDat [] (evV 6) (aDat [] (evV 1) aNil))) evNil)))))
  (stSeq (stSet [] 3 (evB (op1 minD) (arCons (evLc [] [5, 7] (itSeq [] (evV 2)) (tgTup 2 (tgCons (tgName [] 5) (tgCons (tgName [] 7) tgNil))) (.ok true) (evV 7)) arNil)))
  (stSeq (stSet [] 4 (evCall F_below [] (aDat [] (evLc [] [5, 7] (itSeq [] (evV 2)) (tgTup 2 (tgCons (tgName [] 5) (tgCons (tgName [] 7) tgNil))) (.ok true) (evTup (evCons [] (evV 5) (evCons [] (ev2 subD (evV 7) (evV 3)) evNil)))) aNil)))
  (stSeq (stIf (asT (ev2 gtD (evB (op1 maxD) (arCons (evLc [] [5, 7] (itSeq [] (evV 4)) (tgTup 2 (tgCons (tgName [] 5) (tgCons (tgName [] 7) tgNil))) (.ok true) (evV 7)) arNil)) (evC (.int 60))))
  (fun _ => .stuck)
  stNx)
  (stRet (evV 4))))))))
noncomputable def F_told_by : Fn := fnOf [] 2 8 b_told_by
theorem ok_told_by (x : Fx w K mg) : FnG P w K mg base 4 (He.ga K "told_by") (fd_told_by x) ["row", "prime"] (spF K F_told_by) := FnG.ev (N := ["row", "prime", "points", "least", "ladder", "degree", "number", "height"]) (io := []) (D_told_by x) sc_told_by rfl rfl fun cd A outer s H E hr hg =>
  (SSs_cons (SSt_expr (SE_call (ok_check_row x) (hr.mono (by decide)) hg (takes_of rfl rfl rfl rfl) rfl (g_check_row x) (D_check_row x).kp (B_check_row x) .nil RepDef.nil (SA_dat (SE_var (i := 0) rfl (.inl rfl) rfl rfl) (SA_dat SE_int SA_nil rfl) rfl) rfl rfl rfl) rfl)
  (SSs_cons (SSt_if (ST_not (ST_truth (SE_call (ok_is_prime x) (hr.mono (by decide)) hg (takes_of rfl rfl rfl rfl) rfl (g_is_prime x) (D_is_prime x).kp (B_is_prime x) .nil RepDef.nil (SA_dat (SE_var (i := 1) rfl (.inr (.inl rfl)) rfl rfl) SA_nil rfl) rfl rfl rfl) (fun _ => rfl)))
  (SSs_one SSt_never)
  SSs_nil)
  (SSs_cons (SSt_setLc (i := 2) (own := [("degree", 5), ("number", 6)]) rfl sc_told_by.nd rfl rfl (sw_true rfl rfl rfl (by decide +kernel)) (SI_enum rfl (n_enumerate x) (SL_cons (SE_var (i := 0) rfl (.inl rfl) rfl rfl) SL_nil rfl) rfl) (blkOk_by (own := [("degree", 5), ("number", 6)]) (by kernel_rfl)) (fun _ _ _ _ _ => (SG_tup rfl (SGs_cons (SG_name (i := 5) (by decide) sc_told_by.nd rfl (.inl rfl) (.inr rfl)) (SGs_cons (SG_name (i := 6) (by decide) sc_told_by.nd rfl (.inl rfl) (.inr rfl)) SGs_nil rfl) rfl) rfl rfl)) (fun _ _ _ _ _ => (STs_one (ST_cmp (op_neDD hr.units) (SE_var (i := 6) rfl (.inl rfl) rfl rfl) SE_int rfl))) (fun _ _ _ _ _ => (SE_tup (SL_cons (SE_var (i := 5) rfl (.inl rfl) rfl rfl) (SL_cons (SE_call (ok_height_of x) (hr.mono (by decide)) hg takesF rfl (g_height_of x) (D_height_of x).kp (B_height_of x) .nil RepDef.nil (SA_dat (SE_var (i := 6) rfl (.inl rfl) rfl rfl) (SA_dat (SE_var (i := 1) rfl (.inr (.inl rfl)) rfl rfl) SA_nil rfl) rfl) rfl rfl rfl) SL_nil rfl) rfl))) (fun _ => rfl))
  (SSs_cons (SSt_set (i := 3) sc_told_by.nd rfl (.inr rfl) (SE_callB (c_min rfl) rfl (n_min x) bt_min (SR_cons (SE_lc (own := [("degree", 5), ("height", 7)]) rfl sc_told_by.nd (SI_seq (SE_var (i := 2) rfl (.inl rfl) rfl rfl)) (blkOk_by (own := [("degree", 5), ("height", 7)]) (by kernel_rfl)) (fun _ _ _ _ _ => (SG_tup rfl (SGs_cons (SG_name (i := 5) (by decide) sc_told_by.nd rfl (.inl rfl) (.inr rfl)) (SGs_cons (SG_name (i := 7) (by decide) sc_told_by.nd rfl (.inl rfl) (.inr rfl)) SGs_nil rfl) rfl) rfl rfl)) (fun _ _ _ _ _ => STs_nil) (fun _ _ _ _ _ => (SE_var (i := 7) rfl (.inl rfl) rfl rfl)) (fun _ => rfl)) SR_nil rfl) (by decide) rfl rfl rfl) rfl (.inl rfl))
  (SSs_cons (SSt_set (i := 4) sc_told_by.nd rfl (.inl rfl) (SE_call (ok_below x) (hr.mono (by decide)) hg (takes_of rfl rfl rfl rfl) rfl (g_below x) (D_below x).kp (B_below x) .nil RepDef.nil (SA_dat (SE_lc (own := [("degree", 5), ("height", 7)]) rfl sc_told_by.nd (SI_seq (SE_var (i := 2) rfl (.inl rfl) rfl rfl)) (blkOk_by (own := [("degree", 5), ("height", 7)]) (by kernel_rfl)) (fun _ _ _ _ _ => (SG_tup rfl (SGs_cons (SG_name (i := 5) (by decide) sc_told_by.nd rfl (.inl rfl) (.inr rfl)) (SGs_cons (SG_name (i := 7) (by decide) sc_told_by.nd rfl (.inl rfl) (.inr rfl)) SGs_nil rfl) rfl) rfl rfl)) (fun _ _ _ _ _ => STs_nil) (fun _ _ _ _ _ => (SE_tup (SL_cons (SE_var (i := 5) rfl (.inl rfl) rfl rfl) (SL_cons (SE_bin op_subD (SE_var (i := 7) rfl (.inl rfl) rfl rfl) (SE_var (i := 3) rfl (.inr (.inl rfl)) rfl rfl)) SL_nil rfl) rfl))) (fun _ => rfl)) SA_nil rfl) rfl rfl rfl) rfl (.inl rfl))
  (SSs_cons (SSt_if (ST_cmp op_gtD (SE_callB (c_max rfl) rfl (n_max x) bt_max (SR_cons (SE_lc (own := [("degree", 5), ("height", 7)]) rfl sc_told_by.nd (SI_seq (SE_var (i := 4) rfl (.inl rfl) rfl rfl)) (blkOk_by (own := [("degree", 5), ("height", 7)]) (by kernel_rfl)) (fun _ _ _ _ _ => (SG_tup rfl (SGs_cons (SG_name (i := 5) (by decide) sc_told_by.nd rfl (.inl rfl) (.inr rfl)) (SGs_cons (SG_name (i := 7) (by decide) sc_told_by.nd rfl (.inl rfl) (.inr rfl)) SGs_nil rfl) rfl) rfl rfl)) (fun _ _ _ _ _ => STs_nil) (fun _ _ _ _ _ => (SE_var (i := 7) rfl (.inl rfl) rfl rfl)) (fun _ => rfl)) SR_nil rfl) (by decide) rfl rfl rfl) (SE_gint (i := 60) rfl (c_MOST_HEIGHT x) rfl) rfl)
  (SSs_one SSt_never)
  SSs_nil)
  (SSs_one (SSt_ret (SE_var (i := 4) rfl (.inl rfl) rfl rfl)))))))))
noncomputable def fd_product_of (x : Fx w K mg) : FuncData := Classical.choose (x.c.def_ 8 (d := d8) rfl)
theorem D_product_of (x : Fx w K mg) : FunD K "product_of" "product_of" (defArgs (top 30)) (defBody (top 30)) (defScope (top 30)) [] [] (He.ga K "product_of") (fd_product_of x) := Classical.choose_spec (x.c.def_ 8 (d := d8) rfl)
theorem B_product_of (x : Fx w K mg) : Binds K (fd_product_of x) ["first", "second"] [] := (D_product_of x).bindsN fun _ _ _ _ _ _ us hl => match us, hl with | [_, _], _ => rfl
theorem sc_product_of : FnScope ["first", "second", "found", "at", "one", "spot", "other", "degree"] ["first", "second"] (defScope (top 30)) := ⟨rfl, rfl, rfl, by decide +kernel, rfl, by decide +kernel, by decide +kernel⟩
noncomputable def b_product_of : Rho → Rs Fl := (stSeq (stSet [] 2 (evLc [] [7] (itR1 (ev2 subD (ev2 addD (evB (op1 lenD) (arCons (evV 0) arNil)) (evB (op1 lenD) (arCons (evV 1) arNil))) (evC (.int 1)))) (tgName [] 7) (.ok true) (evC (.int 0))))
  (stSeq (stFor (itEnumA (evCons [] (evV 0) evNil)) (tgTup 2 (tgCons (tgName [] 3) (tgCons (tgName [] 4) tgNil)))
  (stFor (itEnumA (evCons [] (evV 1) evNil)) (tgTup 2 (tgCons (tgName [] 5) (tgCons (tgName [] 6) tgNil)))
  (stAugIx 2 .add (ev2 addD (evV 3) (evV 5)) (ev2 mulD (evV 4) (evV 6)))))
  (stRet (evB (op1 tupleD) (arCons (evV 2) arNil)))))
noncomputable def F_product_of : Fn := fnOf [] 2 8 b_product_of
theorem ok_product_of (x : Fx w K mg) : FnG P w K mg base 1 (He.ga K "product_of") (fd_product_of x) ["first", "second"] (spF K F_product_of) := FnG.ev (N := ["first", "second", "found", "at", "one", "spot", "other", "degree"]) (io := []) (D_product_of x) sc_product_of rfl rfl fun cd A outer s H E hr hg =>
  (SSs_cons (SSt_setLc (i := 2) (own := [("degree", 7)]) rfl sc_product_of.nd rfl rfl (sw_true rfl rfl rfl (by decide +kernel)) (SI_range1 rfl (n_range x) (SE_bin op_subD (SE_bin op_addD (SE_callB c_len rfl (n_len x) bt_len (SR_cons (SE_var (i := 0) rfl (.inl rfl) rfl rfl) SR_nil rfl) (by decide) rfl rfl rfl) (SE_callB c_len rfl (n_len x) bt_len (SR_cons (SE_var (i := 1) rfl (.inl rfl) rfl rfl) SR_nil rfl) (by decide) rfl rfl rfl)) SE_int) rfl) (blkOk_by (own := [("degree", 7)]) (by kernel_rfl)) (fun _ _ _ _ _ => (SG_name (i := 7) (by decide) sc_product_of.nd rfl (.inl rfl) (.inr rfl))) (fun _ _ _ _ _ => STs_nil) (fun _ _ _ _ _ => SE_int) (fun _ => rfl))
  (SSs_cons (SSt_for (L := [3, 4]) (passes_of rfl) rfl (SI_enum rfl (n_enumerate x) (SL_cons (SE_var (i := 0) rfl (.inl rfl) rfl rfl) SL_nil rfl) rfl) (SG_tup rfl (SGs_cons (SG_name (i := 3) (by decide) sc_product_of.nd rfl (.inl rfl) (.inl rfl)) (SGs_cons (SG_name (i := 4) (by decide) sc_product_of.nd rfl (.inl rfl) (.inl rfl)) SGs_nil rfl) rfl) rfl rfl)
  (SSs_one (SSt_for (L := [5, 6]) (passes_of rfl) rfl (SI_enum rfl (n_enumerate x) (SL_cons (SE_var (i := 1) rfl (.inl rfl) rfl rfl) SL_nil rfl) rfl) (SG_tup rfl (SGs_cons (SG_name (i := 5) (by decide) sc_product_of.nd rfl (.inl rfl) (.inl rfl)) (SGs_cons (SG_name (i := 6) (by decide) sc_product_of.nd rfl (.inl rfl) (.inl rfl)) SGs_nil rfl) rfl) rfl rfl)
  (SSs_one (SSt_augIx (i := 2) (pe_var (i := 2) rfl (.inl rfl) rfl rfl) (SE_bin op_addD (SE_var (i := 3) rfl (.inl rfl) rfl rfl) (SE_var (i := 5) rfl (.inl rfl) rfl rfl)) (SE_bin op_mulD (SE_var (i := 4) rfl (.inl rfl) rfl rfl) (SE_var (i := 6) rfl (.inl rfl) rfl rfl)) (ip_D .add) (fun _ _ _ => rfl))) (fun _ => rfl))) (fun _ => rfl))
  (SSs_one (SSt_ret (SE_callTy c_tuple rfl (n_tuple x) bt_tuple (SR_cons (SE_var (i := 2) rfl (.inl rfl) rfl rfl) SR_nil rfl) (by decide) rfl rfl rfl)))))
noncomputable def fd_multiplied (x : Fx w K mg) : FuncData := Classical.choose (x.c.def_ 9 (d := d9) rfl)
theorem D_multiplied (x : Fx w K mg) : FunD K "multiplied" "multiplied" (defArgs (top 31)) (defBody (top 31)) (defScope (top 31)) [] [] (He.ga K "multiplied") (fd_multiplied x) := Classical.choose_spec (x.c.def_ 9 (d := d9) rfl)
theorem B_multiplied (x : Fx w K mg) : Binds K (fd_multiplied x) ["first", "second"] [] := (D_multiplied x).bindsN fun _ _ _ _ _ _ us hl => match us, hl with | [_, _], _ => rfl
theorem sc_multiplied : FnScope ["first", "second"] ["first", "second"] (defScope (top 31)) := ⟨rfl, rfl, rfl, by decide +kernel, rfl, by decide +kernel, by decide +kernel⟩
noncomputable def b_multiplied : Rho → Rs Fl := (stSeq (stExpr (evCall F_check_row [] (aDat [] (evV 0) (aDat [] (evC (.int 1)) aNil))))
  (stSeq (stExpr (evCall F_check_row [] (aDat [] (evV 1) (aDat [] (evC (.int 1)) aNil))))
  (stRet (evCall F_product_of [] (aDat [] (evV 0) (aDat [] (evV 1) aNil))))))
noncomputable def F_multiplied : Fn := fnOf [] 2 2 b_multiplied
theorem ok_multiplied (x : Fx w K mg) : FnG P w K mg base 3 (He.ga K "multiplied") (fd_multiplied x) ["first", "second"] (spF K F_multiplied) := FnG.ev (N := ["first", "second"]) (io := []) (D_multiplied x) sc_multiplied rfl rfl fun cd A outer s H E hr hg =>
  (SSs_cons (SSt_expr (SE_call (ok_check_row x) (hr.mono (by decide)) hg (takes_of rfl rfl rfl rfl) rfl (g_check_row x) (D_check_row x).kp (B_check_row x) .nil RepDef.nil (SA_dat (SE_var (i := 0) rfl (.inl rfl) rfl rfl) (SA_dat SE_int SA_nil rfl) rfl) rfl rfl rfl) rfl)
  (SSs_cons (SSt_expr (SE_call (ok_check_row x) (hr.mono (by decide)) hg (takes_of rfl rfl rfl rfl) rfl (g_check_row x) (D_check_row x).kp (B_check_row x) .nil RepDef.nil (SA_dat (SE_var (i := 1) rfl (.inl rfl) rfl rfl) (SA_dat SE_int SA_nil rfl) rfl) rfl rfl rfl) rfl)
  (SSs_one (SSt_ret (SE_call (ok_product_of x) (hr.mono (by decide)) hg (takes_of rfl rfl rfl rfl) rfl (g_product_of x) (D_product_of x).kp (B_product_of x) .nil RepDef.nil (SA_dat (SE_var (i := 0) rfl (.inl rfl) rfl rfl) (SA_dat (SE_var (i := 1) rfl (.inl rfl) rfl rfl) SA_nil rfl) rfl) rfl rfl rfl)))))
noncomputable def fd__law_multiplied (x : Fx w K mg) : FuncData := Classical.choose (x.c.def_ 10 (d := d10) rfl)
theorem D__law_multiplied (x : Fx w K mg) : FunD K "_law_multiplied" "_law_multiplied" (defArgs (top 40)) (defBody (top 40)) (defScope (top 40)) [] [] (He.ga K "_law_multiplied") (fd__law_multiplied x) := Classical.choose_spec (x.c.def_ 10 (d := d10) rfl)
theorem B__law_multiplied (x : Fx w K mg) : Binds K (fd__law_multiplied x) ["_law_one", "_law_two"] [] := (D__law_multiplied x).bindsN fun _ _ _ _ _ _ us hl => match us, hl with | [_, _], _ => rfl
theorem sc__law_multiplied : FnScope ["_law_one", "_law_two", "_law_found", "_law_k", "_law_j"] ["_law_one", "_law_two"] (defScope (top 40)) := ⟨rfl, rfl, rfl, by decide +kernel, rfl, by decide +kernel, by decide +kernel⟩
noncomputable def b__law_multiplied : Rho → Rs Fl := (stSeq (stSet [] 2 (ev2 mulD (evLst (evCons [] (evC (.int 0)) evNil)) (ev2 subD (ev2 addD (evB (op1 lenD) (arCons (evV 0) arNil)) (evB (op1 lenD) (arCons (evV 1) arNil))) (evC (.int 1)))))
  (stSeq (stFor (itR1 (evB (op1 lenD) (arCons (evV 0) arNil))) (tgName [] 3)
  (stFor (itR1 (evB (op1 lenD) (arCons (evV 1) arNil))) (tgName [] 4)
  (stSetIx [] 2 lstSet (ev2 addD (ev2 ixDD (evV 2) (ev2 addD (evV 3) (evV 4))) (ev2 mulD (ev2 ixDD (evV 0) (evV 3)) (ev2 ixDD (evV 1) (evV 4)))) (ev2 addD (evV 3) (evV 4)))))
  (stRet (evB (op1 tupleD) (arCons (evV 2) arNil)))))
noncomputable def F__law_multiplied : Fn := fnOf [] 2 5 b__law_multiplied
theorem ok__law_multiplied (x : Fx w K mg) : FnG P w K mg base 1 (He.ga K "_law_multiplied") (fd__law_multiplied x) ["_law_one", "_law_two"] (spF K F__law_multiplied) := FnG.ev (N := ["_law_one", "_law_two", "_law_found", "_law_k", "_law_j"]) (io := []) (D__law_multiplied x) sc__law_multiplied rfl rfl fun cd A outer s H E hr hg =>
  (SSs_cons (SSt_set (i := 2) sc__law_multiplied.nd rfl (.inl rfl) (SE_bin op_mulD (SE_lst (SL_cons SE_int SL_nil rfl)) (SE_bin op_subD (SE_bin op_addD (SE_callB c_len rfl (n_len x) bt_len (SR_cons (SE_var (i := 0) rfl (.inl rfl) rfl rfl) SR_nil rfl) (by decide) rfl rfl rfl) (SE_callB c_len rfl (n_len x) bt_len (SR_cons (SE_var (i := 1) rfl (.inl rfl) rfl rfl) SR_nil rfl) (by decide) rfl rfl rfl)) SE_int)) rfl (.inl rfl))
  (SSs_cons (SSt_for (L := [3]) (passes_of rfl) rfl (SI_range1 rfl (n_range x) (SE_callB c_len rfl (n_len x) bt_len (SR_cons (SE_var (i := 0) rfl (.inl rfl) rfl rfl) SR_nil rfl) (by decide) rfl rfl rfl) rfl) (SG_name (i := 3) (by decide) sc__law_multiplied.nd rfl (.inl rfl) (.inl rfl))
  (SSs_one (SSt_for (L := [4]) (passes_of rfl) rfl (SI_range1 rfl (n_range x) (SE_callB c_len rfl (n_len x) bt_len (SR_cons (SE_var (i := 1) rfl (.inl rfl) rfl rfl) SR_nil rfl) (by decide) rfl rfl rfl) rfl) (SG_name (i := 4) (by decide) sc__law_multiplied.nd rfl (.inl rfl) (.inl rfl))
  (SSs_one (SSt_setIx (i := 2) set_lstOk set_list (pe_var (i := 2) rfl (.inl rfl) rfl rfl) (SE_bin op_addD (SE_var (i := 3) rfl (.inl rfl) rfl rfl) (SE_var (i := 4) rfl (.inl rfl) rfl rfl)) (SE_bin op_addD (SE_ix (ix_DD (hu_of hr)) (SE_var (i := 2) rfl (.inl rfl) rfl rfl) (SE_bin op_addD (SE_var (i := 3) rfl (.inl rfl) rfl rfl) (SE_var (i := 4) rfl (.inl rfl) rfl rfl)) (fun _ _ => rfl)) (SE_bin op_mulD (SE_ix (ix_DD (hu_of hr)) (SE_var (i := 0) rfl (.inl rfl) rfl rfl) (SE_var (i := 3) rfl (.inl rfl) rfl rfl) (fun _ _ => rfl)) (SE_ix (ix_DD (hu_of hr)) (SE_var (i := 1) rfl (.inl rfl) rfl rfl) (SE_var (i := 4) rfl (.inl rfl) rfl rfl) (fun _ _ => rfl)))) (fun _ => rfl) rfl rfl rfl)) (fun _ => rfl))) (fun _ => rfl))
  (SSs_one (SSt_ret (SE_callTy c_tuple rfl (n_tuple x) bt_tuple (SR_cons (SE_var (i := 2) rfl (.inl rfl) rfl rfl) SR_nil rfl) (by decide) rfl rfl rfl)))))
noncomputable def fd__law_pour (x : Fx w K mg) : FuncData := Classical.choose (x.c.def_ 11 (d := d11) rfl)
theorem D__law_pour (x : Fx w K mg) : FunD K "_law_pour" "_law_pour" (defArgs (top 34)) (defBody (top 34)) (defScope (top 34)) [] [] (He.ga K "_law_pour") (fd__law_pour x) := Classical.choose_spec (x.c.def_ 11 (d := d11) rfl)
theorem B__law_pour (x : Fx w K mg) : Binds K (fd__law_pour x) ["_law_jug_here", "_law_top"] [] := (D__law_pour x).bindsN fun _ _ _ _ _ _ us hl => match us, hl with | [_, _], _ => rfl
theorem sc__law_pour : FnScope ["_law_jug_here", "_law_top", "_law_digit"] ["_law_jug_here", "_law_top"] (defScope (top 34)) := ⟨rfl, rfl, rfl, by decide +kernel, rfl, by decide +kernel, by decide +kernel⟩
noncomputable def b__law_pour : Rho → Rs Fl := (stSeq (stSetIx [0] 0 lstSet (ev2 addD (ev2 ixDD (evV 0) (evC (.int 2))) (evC (.int 1))) (evC (.int 2)))
  (stSeq (stIf (asT (ev2 gtD (ev2 ixDD (evV 0) (evC (.int 0))) (evC (.int 0))))
  (stSeq (stSet [0] 2 (ev2 modD (evB (op1 intD) (arCons (ev2 ixDD (evV 0) (evC (.int 0))) arNil)) (evV 1)))
  (stSeq (stSetIx [0] 0 lstSet (ev2 fdivD (evB (op1 intD) (arCons (ev2 ixDD (evV 0) (evC (.int 0))) arNil)) (evV 1)) (evC (.int 0)))
  (stRet (evV 2))))
  stNx)
  (stSeq (stSetIx [0] 0 lstSet (ev2 modD (evB (op1 intD) (arCons (ev2 addD (ev2 addD (ev2 mulD (ev2 ixDD (evV 0) (evC (.int 1))) (evC (.int 69621))) (ev2 mulD (evC (.int 3001)) (ev2 ixDD (evV 0) (evC (.int 2))))) (evC (.int 23))) arNil)) (evC (.int 2147483587))) (evC (.int 1)))
  (stRet (ev2 modD (evB (op1 intD) (arCons (ev2 fdivD (ev2 ixDD (evV 0) (evC (.int 1))) (evC (.int 256))) arNil)) (evV 1))))))
noncomputable def F__law_pour : Fn := fnOf [0] 2 3 b__law_pour
theorem ok__law_pour (x : Fx w K mg) : FnG P w K mg base 1 (He.ga K "_law_pour") (fd__law_pour x) ["_law_jug_here", "_law_top"] (spF K F__law_pour) := FnG.ev (N := ["_law_jug_here", "_law_top", "_law_digit"]) (io := [0]) (D__law_pour x) sc__law_pour rfl rfl fun cd A outer s H E hr hg =>
  (SSs_cons (SSt_setIx (i := 0) set_lstOk set_list (pe_var (i := 0) rfl (.inl rfl) rfl rfl) SE_int (SE_bin op_addD (SE_ix (ix_DD (hu_of hr)) (SE_var (i := 0) rfl (.inl rfl) rfl rfl) SE_int (fun _ _ => rfl)) SE_int) (fun _ => rfl) rfl rfl rfl)
  (SSs_cons (SSt_if (ST_cmp op_gtD (SE_ix (ix_DD (hu_of hr)) (SE_var (i := 0) rfl (.inl rfl) rfl rfl) SE_int (fun _ _ => rfl)) SE_int rfl)
  (SSs_cons (SSt_set (i := 2) sc__law_pour.nd rfl (.inl rfl) (SE_bin op_modD (SE_callTy c_int rfl (n_int x) bt_int (SR_cons (SE_ix (ix_DD (hu_of hr)) (SE_var (i := 0) rfl (.inl rfl) rfl rfl) SE_int (fun _ _ => rfl)) SR_nil rfl) (by decide) rfl rfl rfl) (SE_var (i := 1) rfl (.inl rfl) rfl rfl)) rfl (.inl rfl))
  (SSs_cons (SSt_setIx (i := 0) set_lstOk set_list (pe_var (i := 0) rfl (.inl rfl) rfl rfl) SE_int (SE_bin op_fdivD (SE_callTy c_int rfl (n_int x) bt_int (SR_cons (SE_ix (ix_DD (hu_of hr)) (SE_var (i := 0) rfl (.inl rfl) rfl rfl) SE_int (fun _ _ => rfl)) SR_nil rfl) (by decide) rfl rfl rfl) (SE_var (i := 1) rfl (.inl rfl) rfl rfl)) (fun _ => rfl) rfl rfl rfl)
  (SSs_one (SSt_ret (SE_var (i := 2) rfl (.inl rfl) rfl rfl)))))
  SSs_nil)
  (SSs_cons (SSt_setIx (i := 0) set_lstOk set_list (pe_var (i := 0) rfl (.inl rfl) rfl rfl) SE_int (SE_bin op_modD (SE_callTy c_int rfl (n_int x) bt_int (SR_cons (SE_bin op_addD (SE_bin op_addD (SE_bin op_mulD (SE_ix (ix_DD (hu_of hr)) (SE_var (i := 0) rfl (.inl rfl) rfl rfl) SE_int (fun _ _ => rfl)) SE_int) (SE_bin op_mulD SE_int (SE_ix (ix_DD (hu_of hr)) (SE_var (i := 0) rfl (.inl rfl) rfl rfl) SE_int (fun _ _ => rfl)))) SE_int) SR_nil rfl) (by decide) rfl rfl rfl) SE_int) (fun _ => rfl) rfl rfl rfl)
  (SSs_one (SSt_ret (SE_bin op_modD (SE_callTy c_int rfl (n_int x) bt_int (SR_cons (SE_bin op_fdivD (SE_ix (ix_DD (hu_of hr)) (SE_var (i := 0) rfl (.inl rfl) rfl rfl) SE_int (fun _ _ => rfl)) SE_int) SR_nil rfl) (by decide) rfl rfl rfl) (SE_var (i := 1) rfl (.inl rfl) rfl rfl)))))))
noncomputable def fd__law_pick (x : Fx w K mg) : FuncData := Classical.choose (x.c.def_ 12 (d := d12) rfl)
theorem D__law_pick (x : Fx w K mg) : FunD K "_law_pick" "_law_pick" (defArgs (top 35)) (defBody (top 35)) (defScope (top 35)) [] [] (He.ga K "_law_pick") (fd__law_pick x) := Classical.choose_spec (x.c.def_ 12 (d := d12) rfl)
theorem B__law_pick (x : Fx w K mg) : Binds K (fd__law_pick x) ["_law_jug_here", "_law_menu"] [] := (D__law_pick x).bindsN fun _ _ _ _ _ _ us hl => match us, hl with | [_, _], _ => rfl
theorem sc__law_pick : FnScope ["_law_jug_here", "_law_menu"] ["_law_jug_here", "_law_menu"] (defScope (top 35)) := ⟨rfl, rfl, rfl, by decide +kernel, rfl, by decide +kernel, by decide +kernel⟩
noncomputable def b__law_pick : Rho → Rs Fl := (stRet (ev2 ixDD (evV 1) (evCall F__law_pour [] (aOwn (evV 0) (aDat [0] (evB (op1 lenD) (arCons (evV 1) arNil)) aNil)))))
noncomputable def F__law_pick : Fn := fnOf [0] 2 2 b__law_pick
theorem ok__law_pick (x : Fx w K mg) : FnG P w K mg base 2 (He.ga K "_law_pick") (fd__law_pick x) ["_law_jug_here", "_law_menu"] (spF K F__law_pick) := FnG.ev (N := ["_law_jug_here", "_law_menu"]) (io := [0]) (D__law_pick x) sc__law_pick rfl rfl fun cd A outer s H E hr hg =>
  (SSs_one (SSt_ret (SE_ix (ix_DD (hu_of hr)) (SE_var (i := 1) rfl (.inl rfl) rfl rfl) (SE_call (ok__law_pour x) (hr.mono (by decide)) hg (takes_of rfl rfl rfl rfl) rfl (g__law_pour x) (D__law_pour x).kp (B__law_pour x) .nil RepDef.nil (SA_own (SE_var (i := 0) rfl (.inl rfl) rfl rfl) (SA_dat (SE_callB c_len rfl (n_len x) bt_len (SR_cons (SE_var (i := 1) rfl (.inl rfl) rfl rfl) SR_nil rfl) (by decide) rfl rfl rfl) SA_nil rfl) rfl) rfl rfl rfl) (fun _ _ => rfl))))
noncomputable def fd__law_row (x : Fx w K mg) : FuncData := Classical.choose (x.c.def_ 13 (d := d13) rfl)
theorem D__law_row (x : Fx w K mg) : FunD K "_law_row" "_law_row" (defArgs (top 41)) (defBody (top 41)) (defScope (top 41)) [] [] (He.ga K "_law_row") (fd__law_row x) := Classical.choose_spec (x.c.def_ 13 (d := d13) rfl)
theorem B__law_row (x : Fx w K mg) : Binds K (fd__law_row x) ["_law_jug_here", "_law_prime"] [] := (D__law_row x).bindsN fun _ _ _ _ _ _ us hl => match us, hl with | [_, _], _ => rfl
theorem sc__law_row : FnScope ["_law_jug_here", "_law_prime", "_law_many", "_law_found", "_law_k", "_law_core"] ["_law_jug_here", "_law_prime"] (defScope (top 41)) := ⟨rfl, rfl, rfl, by decide +kernel, rfl, by decide +kernel, by decide +kernel⟩
noncomputable def b__law_row : Rho → Rs Fl := (stSeq (stPar [0] [2, 3] (seCons [0] (ev2 addD (evC (.int 1)) (evCall F__law_pour [] (aOwn (evV 0) (aDat [0] (evC (.int 7)) aNil)))) (seCons [0] (evLst evNil) arNil)))
  (stSeq (stFor (itR1 (ev2 addD (evV 2) (evC (.int 1)))) (tgName [0] 4)
  (stSeq (stSet [0] 5 (evCall F__law_pick [] (aOwn (evV 0) (aDat [0] (evLst (evCons [0] (evC (.int 1)) (evCons [0] (ev1 negD (evC (.int 1))) (evCons [0] (evC (.int 1)) (evCons [0] (evC (.int 2)) (evCons [0] (evC (.int 3)) (evCons [0] (ev1 negD (evC (.int 5))) (evCons [0] (evC (.int 7)) (evCons [0] (evC (.int 30)) (evCons [0] (evC (.int 0)) evNil)))))))))) aNil))))
  (stSeq (stSet [0] 5 (evIte (teAnd (asT (ev2 eqD (evV 5) (evC (.int 0)))) (asT (ev2 inXT (evV 4) (evLst (evCons [0] (evC (.int 0)) (evCons [0] (evV 2) evNil)))))) (evC (.int 1)) (evV 5)))
  (stExpr (evMut 3 W.isLst appendW (evCons [0] (ev2 mulD (evV 5) (evCall F__law_pick [] (aOwn (evV 0) (aDat [0] (evLst (evCons [0] (evC (.int 1)) (evCons [0] (evV 1) (evCons [0] (ev2 powD (evV 1) (evC (.int 2))) (evCons [0] (ev2 powD (evV 1) (evC (.int 3))) (evCons [0] (evC (.int 1)) (evCons [0] (ev2 powD (evV 1) (evC (.int 5))) evNil))))))) aNil)))) evNil))))))
  (stRet (evB (op1 tupleD) (arCons (evV 3) arNil)))))
noncomputable def F__law_row : Fn := fnOf [0] 2 6 b__law_row
theorem ok__law_row (x : Fx w K mg) : FnG P w K mg base 3 (He.ga K "_law_row") (fd__law_row x) ["_law_jug_here", "_law_prime"] (spF K F__law_row) := FnG.ev (N := ["_law_jug_here", "_law_prime", "_law_many", "_law_found", "_law_k", "_law_core"]) (io := [0]) (D__law_row x) sc__law_row rfl rfl fun cd A outer s H E hr hg =>
  (SSs_cons (SSt_par (i := 2) (j := 3) rfl sc__law_row.nd rfl rfl (by decide) rfl rfl (SSet_cons (SE_bin op_addD SE_int (SE_call (ok__law_pour x) (hr.mono (by decide)) hg (takes_of rfl rfl rfl rfl) rfl (g__law_pour x) (D__law_pour x).kp (B__law_pour x) .nil RepDef.nil (SA_own (SE_var (i := 0) rfl (.inl rfl) rfl rfl) (SA_dat SE_int SA_nil rfl) rfl) rfl rfl rfl)) (SSet_cons (SE_lst SL_nil) SSet_nil rfl) rfl) rfl rfl)
  (SSs_cons (SSt_for (L := [4]) (passes_of rfl) rfl (SI_range1 rfl (n_range x) (SE_bin op_addD (SE_var (i := 2) rfl (.inl rfl) rfl rfl) SE_int) rfl) (SG_name (i := 4) (by decide) sc__law_row.nd rfl (.inl rfl) (.inl rfl))
  (SSs_cons (SSt_set (i := 5) sc__law_row.nd rfl (.inl rfl) (SE_call (ok__law_pick x) (hr.mono (by decide)) hg (takes_of rfl rfl rfl rfl) rfl (g__law_pick x) (D__law_pick x).kp (B__law_pick x) .nil RepDef.nil (SA_own (SE_var (i := 0) rfl (.inl rfl) rfl rfl) (SA_dat (SE_lst (SL_cons SE_int (SL_cons (SE_un un_negD SE_int) (SL_cons SE_int (SL_cons SE_int (SL_cons SE_int (SL_cons (SE_un un_negD SE_int) (SL_cons SE_int (SL_cons SE_int (SL_cons SE_int SL_nil rfl) rfl) rfl) rfl) rfl) rfl) rfl) rfl) rfl)) SA_nil rfl) rfl) rfl rfl rfl) rfl (.inl rfl))
  (SSs_cons (SSt_set (i := 5) sc__law_row.nd rfl (.inl rfl) (SE_ite (SW.t (SW_and (ST_cmp (op_eqDD hr.units) (SE_var (i := 5) rfl (.inl rfl) rfl rfl) SE_int rfl) (SW_and1 (ST_cmp (op_inXT (room65 hr)) (SE_var (i := 4) rfl (.inl rfl) rfl rfl) (SE_lst (SL_cons SE_int (SL_cons (SE_var (i := 2) rfl (.inl rfl) rfl rfl) SL_nil rfl) rfl)) rfl)))) SE_int (SE_var (i := 5) rfl (.inl rfl) rfl rfl)) rfl (.inl rfl))
  (SSs_one (SSt_expr (SE_mut mut_append PySem.F.plainAttrs_list PySem.F.slot_list_append PySem.F.type_list_append mt_append (pe_var (i := 3) rfl (.inl rfl) rfl rfl) (SL_cons (SE_bin op_mulD (SE_var (i := 5) rfl (.inl rfl) rfl rfl) (SE_call (ok__law_pick x) (hr.mono (by decide)) hg (takes_of rfl rfl rfl rfl) rfl (g__law_pick x) (D__law_pick x).kp (B__law_pick x) .nil RepDef.nil (SA_own (SE_var (i := 0) rfl (.inl rfl) rfl rfl) (SA_dat (SE_lst (SL_cons SE_int (SL_cons (SE_var (i := 1) rfl (.inl rfl) rfl rfl) (SL_cons (SE_bin op_powD (SE_var (i := 1) rfl (.inl rfl) rfl rfl) SE_int) (SL_cons (SE_bin op_powD (SE_var (i := 1) rfl (.inl rfl) rfl rfl) SE_int) (SL_cons SE_int (SL_cons (SE_bin op_powD (SE_var (i := 1) rfl (.inl rfl) rfl rfl) SE_int) SL_nil rfl) rfl) rfl) rfl) rfl) rfl)) SA_nil rfl) rfl) rfl rfl rfl)) SL_nil rfl) rfl rfl rfl rfl rfl) rfl)))) (fun _ => rfl))
  (SSs_one (SSt_ret (SE_callTy c_tuple rfl (n_tuple x) bt_tuple (SR_cons (SE_var (i := 3) rfl (.inl rfl) rfl rfl) SR_nil rfl) (by decide) rfl rfl rfl)))))
noncomputable def fd_is_pair (x : Fx w K mg) : FuncData := Classical.choose (x.c.def_ 14 (d := d14) rfl)
theorem D_is_pair (x : Fx w K mg) : FunD K "is_pair" "is_pair" (defArgs (top 14)) (defBody (top 14)) (defScope (top 14)) [] [] (He.ga K "is_pair") (fd_is_pair x) := Classical.choose_spec (x.c.def_ 14 (d := d14) rfl)
theorem B_is_pair (x : Fx w K mg) : Binds K (fd_is_pair x) ["value", "least", "most"] [] := (D_is_pair x).bindsN fun _ _ _ _ _ _ us hl => match us, hl with | [_, _, _], _ => rfl
theorem sc_is_pair : FnScope ["value", "least", "most"] ["value", "least", "most"] (defScope (top 14)) := ⟨rfl, rfl, rfl, by decide +kernel, rfl, by decide +kernel, by decide +kernel⟩
noncomputable def b_is_pair : Rho → Rs Fl := (stSeq (stIf (teOr (teNot (te (ev1 (isiD "tuple") (evV 0)))) (asT (ev2 neD (evB (op1 lenD) (arCons (evV 0) arNil)) (evC (.int 2)))))
  (stRet (evC (.bl false)))
  stNx)
  (stRet (evAnd (evCall F_is_between [] (aDat [] (ev2 ixDD (evV 0) (evC (.int 0))) (aDat [] (evV 1) (aDat [] (evV 2) aNil)))) (evCall F_is_between [] (aDat [] (ev2 ixDD (evV 0) (evC (.int 1))) (aDat [] (evV 1) (aDat [] (evV 2) aNil)))))))
noncomputable def F_is_pair : Fn := fnOf [] 3 3 b_is_pair
theorem ok_is_pair (x : Fx w K mg) : FnG P w K mg base 3 (He.ga K "is_pair") (fd_is_pair x) ["value", "least", "most"] (spF K F_is_pair) := FnG.ev (N := ["value", "least", "most"]) (io := []) (D_is_pair x) sc_is_pair rfl rfl fun cd A outer s H E hr hg =>
  (SSs_cons (SSt_if (SW.t (SW_or (ST_not (ST_truth (SE_isi (T := "tuple") rfl (n_isinstance x) bt_isinstance rfl (n_tuple x) bt_tuple (SE_var (i := 0) rfl (.inl rfl) rfl rfl) (by decide) rfl (by decide) rfl rfl rfl rfl) (fun _ => rfl))) (SW_or1 (ST_cmp (op_neDD hr.units) (SE_callB c_len rfl (n_len x) bt_len (SR_cons (SE_var (i := 0) rfl (.inl rfl) rfl rfl) SR_nil rfl) (by decide) rfl rfl rfl) SE_int rfl))))
  (SSs_one (SSt_ret SE_bl))
  SSs_nil)
  (SSs_one (SSt_ret (SE_and (SE_call (ok_is_between x) (hr.mono (by decide)) hg (takes_of rfl rfl rfl rfl) rfl (g_is_between x) (D_is_between x).kp (B_is_between x) .nil RepDef.nil (SA_dat (SE_ix (ix_DD (hu_of hr)) (SE_var (i := 0) rfl (.inl rfl) rfl rfl) SE_int (fun _ _ => rfl)) (SA_dat (SE_var (i := 1) rfl (.inl rfl) rfl rfl) (SA_dat (SE_var (i := 2) rfl (.inl rfl) rfl rfl) SA_nil rfl) rfl) rfl) rfl rfl rfl) (SE_one (SE_call (ok_is_between x) (hr.mono (by decide)) hg (takes_of rfl rfl rfl rfl) rfl (g_is_between x) (D_is_between x).kp (B_is_between x) .nil RepDef.nil (SA_dat (SE_ix (ix_DD (hu_of hr)) (SE_var (i := 0) rfl (.inl rfl) rfl rfl) SE_int (fun _ _ => rfl)) (SA_dat (SE_var (i := 1) rfl (.inl rfl) rfl rfl) (SA_dat (SE_var (i := 2) rfl (.inl rfl) rfl rfl) SA_nil rfl) rfl) rfl) rfl rfl rfl))))))
noncomputable def fd_is_ladder (x : Fx w K mg) : FuncData := Classical.choose (x.c.def_ 15 (d := d15) rfl)
theorem D_is_ladder (x : Fx w K mg) : FunD K "is_ladder" "is_ladder" (defArgs (top 18)) (defBody (top 18)) (defScope (top 18)) [] [] (He.ga K "is_ladder") (fd_is_ladder x) := Classical.choose_spec (x.c.def_ 15 (d := d15) rfl)
theorem B_is_ladder (x : Fx w K mg) : Binds K (fd_is_ladder x) ["value"] [] := (D_is_ladder x).bindsN fun _ _ _ _ _ _ us hl => match us, hl with | [_], _ => rfl
theorem sc_is_ladder : FnScope ["value", "steps", "pair", "degree", "height", "one", "other", "wide", "rise"] ["value"] (defScope (top 18)) := ⟨rfl, rfl, rfl, by decide +kernel, rfl, by decide +kernel, by decide +kernel⟩
noncomputable def b_is_ladder : Rho → Rs Fl := (stSeq (stIf (teOr (teNot (te (ev1 (isiD "tuple") (evV 0)))) (teOr (asT (ev2 ltD (evB (op1 lenD) (arCons (evV 0) arNil)) (evC (.int 2)))) (teNot (te (evB (op1 allD) (arCons (evLc [] [2] (itSeq [] (evV 0)) (tgName [] 2) (.ok true) (evCall F_is_pair [] (aDat [] (evV 2) (aDat [] (evC (.int 0)) (aDat [] (evC (.int 500)) aNil))))) arNil))))))
  (stRet (evC (.bl false)))
  stNx)
  (stSeq (stIf (teOr (asT (ev2 neD (ev2 ixDD (ev2 ixDD (evV 0) (evC (.int 0))) (evC (.int 0))) (evC (.int 0)))) (asT (ev2 gtD (evB (op1 maxD) (arCons (evLc [] [3, 4] (itSeq [] (evV 0)) (tgTup 2 (tgCons (tgName [] 3) (tgCons (tgName [] 4) tgNil))) (.ok true) (evV 4)) arNil)) (evC (.int 60)))))
  (stRet (evC (.bl false)))
  stNx)
  (stSeq (stSet [] 1 (evLc [] [5, 6] (itZipB (evCons [] (evV 0) (evCons [] (evSl (evV 0) (evP (evC (.int 1))) evNoP) evNil))) (tgTup 2 (tgCons (tgName [] 5) (tgCons (tgName [] 6) tgNil))) (.ok true) (evTup (evCons [] (ev2 subD (ev2 ixDD (evV 6) (evC (.int 0))) (ev2 ixDD (evV 5) (evC (.int 0)))) (evCons [] (ev2 subD (ev2 ixDD (evV 6) (evC (.int 1))) (ev2 ixDD (evV 5) (evC (.int 1)))) evNil)))))
  (stSeq (stIf (asT (ev2 ltD (evB (op1 minD) (arCons (evLc [] [7, 8] (itSeq [] (evV 1)) (tgTup 2 (tgCons (tgName [] 7) (tgCons (tgName [] 8) tgNil))) (.ok true) (evV 7)) arNil)) (evC (.int 1))))
  (stRet (evC (.bl false)))
  stNx)
  (stRet (evB (op1 allD) (arCons (evLc [] [5, 6] (itZipB (evCons [] (evV 1) (evCons [] (evSl (evV 1) (evP (evC (.int 1))) evNoP) evNil))) (tgTup 2 (tgCons (tgName [] 5) (tgCons (tgName [] 6) tgNil))) (.ok true) (ev2 ltD (ev2 mulD (ev2 ixDD (evV 5) (evC (.int 1))) (ev2 ixDD (evV 6) (evC (.int 0)))) (ev2 mulD (ev2 ixDD (evV 6) (evC (.int 1))) (ev2 ixDD (evV 5) (evC (.int 0)))))) arNil)))))))
noncomputable def F_is_ladder : Fn := fnOf [] 1 9 b_is_ladder
theorem ok_is_ladder (x : Fx w K mg) : FnG P w K mg base 4 (He.ga K "is_ladder") (fd_is_ladder x) ["value"] (spF K F_is_ladder) := FnG.ev (N := ["value", "steps", "pair", "degree", "height", "one", "other", "wide", "rise"]) (io := []) (D_is_ladder x) sc_is_ladder rfl rfl fun cd A outer s H E hr hg =>
  (SSs_cons (SSt_if (SW.t (SW_or (ST_not (ST_truth (SE_isi (T := "tuple") rfl (n_isinstance x) bt_isinstance rfl (n_tuple x) bt_tuple (SE_var (i := 0) rfl (.inl rfl) rfl rfl) (by decide) rfl (by decide) rfl rfl rfl rfl) (fun _ => rfl))) (SW_or (ST_cmp (op_ltD hr.units0) (SE_callB c_len rfl (n_len x) bt_len (SR_cons (SE_var (i := 0) rfl (.inl rfl) rfl rfl) SR_nil rfl) (by decide) rfl rfl rfl) SE_int rfl) (SW_or1 (ST_not (ST_truth (SE_callB (c_all rfl) rfl (n_all x) bt_all (SR_cons (SE_lc (own := [("pair", 2)]) rfl sc_is_ladder.nd (SI_seq (SE_var (i := 0) rfl (.inl rfl) rfl rfl)) (blkOk_by (own := [("pair", 2)]) (by kernel_rfl)) (fun _ _ _ _ _ => (SG_name (i := 2) (by decide) sc_is_ladder.nd rfl (.inl rfl) (.inr rfl))) (fun _ _ _ _ _ => STs_nil) (fun _ _ _ _ _ => (SE_call (ok_is_pair x) (hr.mono (by decide)) hg takesF rfl (g_is_pair x) (D_is_pair x).kp (B_is_pair x) .nil RepDef.nil (SA_dat (SE_var (i := 2) rfl (.inl rfl) rfl rfl) (SA_dat SE_int (SA_dat (SE_gint (i := 500) rfl (c_MOST_DEGREE x) rfl) SA_nil rfl) rfl) rfl) rfl rfl rfl)) (fun _ => rfl)) SR_nil rfl) (by decide) rfl rfl rfl) (fun _ => rfl)))))))
  (SSs_one (SSt_ret SE_bl))
  SSs_nil)
  (SSs_cons (SSt_if (SW.t (SW_or (ST_cmp (op_neDD hr.units) (SE_ix (ix_DD (hu_of hr)) (SE_ix (ix_DD (hu_of hr)) (SE_var (i := 0) rfl (.inl rfl) rfl rfl) SE_int (fun _ _ => rfl)) SE_int (fun _ _ => rfl)) SE_int rfl) (SW_or1 (ST_cmp op_gtD (SE_callB (c_max rfl) rfl (n_max x) bt_max (SR_cons (SE_lc (own := [("degree", 3), ("height", 4)]) rfl sc_is_ladder.nd (SI_seq (SE_var (i := 0) rfl (.inl rfl) rfl rfl)) (blkOk_by (own := [("degree", 3), ("height", 4)]) (by kernel_rfl)) (fun _ _ _ _ _ => (SG_tup rfl (SGs_cons (SG_name (i := 3) (by decide) sc_is_ladder.nd rfl (.inl rfl) (.inr rfl)) (SGs_cons (SG_name (i := 4) (by decide) sc_is_ladder.nd rfl (.inl rfl) (.inr rfl)) SGs_nil rfl) rfl) rfl rfl)) (fun _ _ _ _ _ => STs_nil) (fun _ _ _ _ _ => (SE_var (i := 4) rfl (.inl rfl) rfl rfl)) (fun _ => rfl)) SR_nil rfl) (by decide) rfl rfl rfl) (SE_gint (i := 60) rfl (c_MOST_HEIGHT x) rfl) rfl))))
  (SSs_one (SSt_ret SE_bl))
  SSs_nil)
  (SSs_cons (SSt_setLc (i := 1) (own := [("one", 5), ("other", 6)]) rfl sc_is_ladder.nd rfl rfl (sw_true rfl rfl rfl (by decide +kernel)) (SI_zipB rfl (n_zip x) (SL_cons (SE_var (i := 0) rfl (.inl rfl) rfl rfl) (SL_cons (SE_sl (SE_var (i := 0) rfl (.inl rfl) rfl rfl) (SP_some SE_int) SP_none) SL_nil rfl) rfl) rfl rfl) (blkOk_by (own := [("one", 5), ("other", 6)]) (by kernel_rfl)) (fun _ _ _ _ _ => (SG_tup rfl (SGs_cons (SG_name (i := 5) (by decide) sc_is_ladder.nd rfl (.inl rfl) (.inr rfl)) (SGs_cons (SG_name (i := 6) (by decide) sc_is_ladder.nd rfl (.inl rfl) (.inr rfl)) SGs_nil rfl) rfl) rfl rfl)) (fun _ _ _ _ _ => STs_nil) (fun _ _ _ _ _ => (SE_tup (SL_cons (SE_bin op_subD (SE_ix (ix_DD (hu_of hr)) (SE_var (i := 6) rfl (.inl rfl) rfl rfl) SE_int (fun _ _ => rfl)) (SE_ix (ix_DD (hu_of hr)) (SE_var (i := 5) rfl (.inl rfl) rfl rfl) SE_int (fun _ _ => rfl))) (SL_cons (SE_bin op_subD (SE_ix (ix_DD (hu_of hr)) (SE_var (i := 6) rfl (.inl rfl) rfl rfl) SE_int (fun _ _ => rfl)) (SE_ix (ix_DD (hu_of hr)) (SE_var (i := 5) rfl (.inl rfl) rfl rfl) SE_int (fun _ _ => rfl))) SL_nil rfl) rfl))) (fun _ => rfl))
  (SSs_cons (SSt_if (ST_cmp (op_ltD hr.units0) (SE_callB (c_min rfl) rfl (n_min x) bt_min (SR_cons (SE_lc (own := [("wide", 7), ("rise", 8)]) rfl sc_is_ladder.nd (SI_seq (SE_var (i := 1) rfl (.inl rfl) rfl rfl)) (blkOk_by (own := [("wide", 7), ("rise", 8)]) (by kernel_rfl)) (fun _ _ _ _ _ => (SG_tup rfl (SGs_cons (SG_name (i := 7) (by decide) sc_is_ladder.nd rfl (.inl rfl) (.inr rfl)) (SGs_cons (SG_name (i := 8) (by decide) sc_is_ladder.nd rfl (.inl rfl) (.inr rfl)) SGs_nil rfl) rfl) rfl rfl)) (fun _ _ _ _ _ => STs_nil) (fun _ _ _ _ _ => (SE_var (i := 7) rfl (.inl rfl) rfl rfl)) (fun _ => rfl)) SR_nil rfl) (by decide) rfl rfl rfl) SE_int rfl)
  (SSs_one (SSt_ret SE_bl))
  SSs_nil)
  (SSs_one (SSt_ret (SE_callB (c_all rfl) rfl (n_all x) bt_all (SR_cons (SE_lc (own := [("one", 5), ("other", 6)]) rfl sc_is_ladder.nd (SI_zipB rfl (n_zip x) (SL_cons (SE_var (i := 1) rfl (.inl rfl) rfl rfl) (SL_cons (SE_sl (SE_var (i := 1) rfl (.inl rfl) rfl rfl) (SP_some SE_int) SP_none) SL_nil rfl) rfl) rfl rfl) (blkOk_by (own := [("one", 5), ("other", 6)]) (by kernel_rfl)) (fun _ _ _ _ _ => (SG_tup rfl (SGs_cons (SG_name (i := 5) (by decide) sc_is_ladder.nd rfl (.inl rfl) (.inr rfl)) (SGs_cons (SG_name (i := 6) (by decide) sc_is_ladder.nd rfl (.inl rfl) (.inr rfl)) SGs_nil rfl) rfl) rfl rfl)) (fun _ _ _ _ _ => STs_nil) (fun _ _ _ _ _ => (SE_cmp (op_ltD hr.units0) (SE_bin op_mulD (SE_ix (ix_DD (hu_of hr)) (SE_var (i := 5) rfl (.inl rfl) rfl rfl) SE_int (fun _ _ => rfl)) (SE_ix (ix_DD (hu_of hr)) (SE_var (i := 6) rfl (.inl rfl) rfl rfl) SE_int (fun _ _ => rfl))) (SE_bin op_mulD (SE_ix (ix_DD (hu_of hr)) (SE_var (i := 6) rfl (.inl rfl) rfl rfl) SE_int (fun _ _ => rfl)) (SE_ix (ix_DD (hu_of hr)) (SE_var (i := 5) rfl (.inl rfl) rfl rfl) SE_int (fun _ _ => rfl))) rfl)) (fun _ => rfl)) SR_nil rfl) (by decide) rfl rfl rfl)))))))
noncomputable def fd_check_ladders (x : Fx w K mg) : FuncData := Classical.choose (x.c.def_ 16 (d := d16) rfl)
theorem D_check_ladders (x : Fx w K mg) : FunD K "check_ladders" "check_ladders" (defArgs (top 19)) (defBody (top 19)) (defScope (top 19)) [] [] (He.ga K "check_ladders") (fd_check_ladders x) := Classical.choose_spec (x.c.def_ 16 (d := d16) rfl)
theorem B_check_ladders (x : Fx w K mg) : Binds K (fd_check_ladders x) ["value"] [] := (D_check_ladders x).bindsN fun _ _ _ _ _ _ us hl => match us, hl with | [_], _ => rfl
theorem sc_check_ladders : FnScope ["value", "index", "ladder"] ["value"] (defScope (top 19)) := ⟨rfl, rfl, rfl, by decide +kernel, rfl, by decide +kernel, by decide +kernel⟩
noncomputable def b_check_ladders : Rho → Rs Fl := (stSeq (stIf (teOr (teNot (te (ev1 (isiD "tuple") (evV 0)))) (asT (ev2 eqD (evV 0) (evTup evNil))))
  (fun _ => .stuck)
  stNx)
  (stFor (itEnumA (evCons [] (evV 0) evNil)) (tgTup 2 (tgCons (tgName [] 1) (tgCons (tgName [] 2) tgNil)))
  (stIf (teOr (asT (ev2 eqD (evV 1) (evC (.int 4)))) (teOr (teNot (te (evCall F_is_ladder [] (aDat [] (evV 2) aNil)))) (asT (ev2 neD (ev2 ixDD (ev2 ixDD (evV 2) (ev1 negD (evC (.int 1)))) (evC (.int 0))) (ev2 ixDD (ev2 ixDD (ev2 ixDD (evV 0) (evC (.int 0))) (ev1 negD (evC (.int 1)))) (evC (.int 0)))))))
  (fun _ => .stuck)
  stNx)))
noncomputable def F_check_ladders : Fn := fnOf [] 1 3 b_check_ladders
theorem ok_check_ladders (x : Fx w K mg) : FnG P w K mg base 5 (He.ga K "check_ladders") (fd_check_ladders x) ["value"] (spF K F_check_ladders) := FnG.ev (N := ["value", "index", "ladder"]) (io := []) (D_check_ladders x) sc_check_ladders rfl rfl fun cd A outer s H E hr hg =>
  (SSs_cons (SSt_if (SW.t (SW_or (ST_not (ST_truth (SE_isi (T := "tuple") rfl (n_isinstance x) bt_isinstance rfl (n_tuple x) bt_tuple (SE_var (i := 0) rfl (.inl rfl) rfl rfl) (by decide) rfl (by decide) rfl rfl rfl rfl) (fun _ => rfl))) (SW_or1 (ST_cmp (op_eqDD hr.units) (SE_var (i := 0) rfl (.inl rfl) rfl rfl) (SE_tup SL_nil) rfl))))
  (SSs_one SSt_never)
  SSs_nil)
  (SSs_one (SSt_for (L := [1, 2]) (passes_of rfl) rfl (SI_enum rfl (n_enumerate x) (SL_cons (SE_var (i := 0) rfl (.inl rfl) rfl rfl) SL_nil rfl) rfl) (SG_tup rfl (SGs_cons (SG_name (i := 1) (by decide) sc_check_ladders.nd rfl (.inl rfl) (.inl rfl)) (SGs_cons (SG_name (i := 2) (by decide) sc_check_ladders.nd rfl (.inl rfl) (.inl rfl)) SGs_nil rfl) rfl) rfl rfl)
  (SSs_one (SSt_if (SW.t (SW_or (ST_cmp (op_eqDD hr.units) (SE_var (i := 1) rfl (.inl rfl) rfl rfl) (SE_gint (i := 4) rfl (c_MOST_LADDERS x) rfl) rfl) (SW_or (ST_not (ST_truth (SE_call (ok_is_ladder x) (hr.mono (by decide)) hg (takes_of rfl rfl rfl rfl) rfl (g_is_ladder x) (D_is_ladder x).kp (B_is_ladder x) .nil RepDef.nil (SA_dat (SE_var (i := 2) rfl (.inl rfl) rfl rfl) SA_nil rfl) rfl rfl rfl) (fun _ => rfl))) (SW_or1 (ST_cmp (op_neDD hr.units) (SE_ix (ix_DD (hu_of hr)) (SE_ix (ix_DD (hu_of hr)) (SE_var (i := 2) rfl (.inl rfl) rfl rfl) (SE_un un_negD SE_int) (fun _ _ => rfl)) SE_int (fun _ _ => rfl)) (SE_ix (ix_DD (hu_of hr)) (SE_ix (ix_DD (hu_of hr)) (SE_ix (ix_DD (hu_of hr)) (SE_var (i := 0) rfl (.inl rfl) rfl rfl) SE_int (fun _ _ => rfl)) (SE_un un_negD SE_int) (fun _ _ => rfl)) SE_int (fun _ _ => rfl)) rfl)))))
  (SSs_one SSt_never)
  SSs_nil)) (fun _ => rfl))))
noncomputable def fd_common (x : Fx w K mg) : FuncData := Classical.choose (x.c.def_ 17 (d := d17) rfl)
theorem D_common (x : Fx w K mg) : FunD K "common" "common" (defArgs (top 15)) (defBody (top 15)) (defScope (top 15)) [] [] (He.ga K "common") (fd_common x) := Classical.choose_spec (x.c.def_ 17 (d := d17) rfl)
theorem B_common (x : Fx w K mg) : Binds K (fd_common x) ["high", "low"] [] := (D_common x).bindsN fun _ _ _ _ _ _ us hl => match us, hl with | [_, _], _ => rfl
theorem sc_common : FnScope ["high", "low"] ["high", "low"] (defScope (top 15)) := ⟨rfl, rfl, rfl, by decide +kernel, rfl, by decide +kernel, by decide +kernel⟩
noncomputable def b_common : Rho → Rs Fl := (stSeq (stPar [] [0, 1] (seCons [] (evB (op1 absD) (arCons (evV 0) arNil)) (seCons [] (evB (op1 absD) (arCons (evV 1) arNil)) arNil)))
  (stSeq (stWhile (asT (ev2 gtD (evV 1) (evC (.int 0))))
  (stPar [] [0, 1] (seCons [] (evV 1) (seCons [] (ev2 modD (evV 0) (evV 1)) arNil))))
  (stRet (evV 0))))
noncomputable def F_common : Fn := fnOf [] 2 2 b_common
theorem ok_common (x : Fx w K mg) : FnG P w K mg base 1 (He.ga K "common") (fd_common x) ["high", "low"] (spF K F_common) := FnG.ev (N := ["high", "low"]) (io := []) (D_common x) sc_common rfl rfl fun cd A outer s H E hr hg =>
  (SSs_cons (SSt_par (i := 0) (j := 1) rfl sc_common.nd rfl rfl (by decide) rfl rfl (SSet_cons (SE_callB c_abs rfl (n_abs x) bt_abs (SR_cons (SE_var (i := 0) rfl (.inl rfl) rfl rfl) SR_nil rfl) (by decide) rfl rfl rfl) (SSet_cons (SE_callB c_abs rfl (n_abs x) bt_abs (SR_cons (SE_var (i := 1) rfl (.inl rfl) rfl rfl) SR_nil rfl) (by decide) rfl rfl rfl) SSet_nil rfl) rfl) rfl rfl)
  (SSs_cons (SSt_while (passes_of rfl) (ST_cmp op_gtD (SE_var (i := 1) rfl (.inl rfl) rfl rfl) SE_int rfl)
  (SSs_one (SSt_par (i := 0) (j := 1) rfl sc_common.nd rfl rfl (by decide) rfl rfl (SSet_cons (SE_var (i := 1) rfl (.inl rfl) rfl rfl) (SSet_cons (SE_bin op_modD (SE_var (i := 0) rfl (.inl rfl) rfl rfl) (SE_var (i := 1) rfl (.inl rfl) rfl rfl)) SSet_nil rfl) rfl) rfl rfl)))
  (SSs_one (SSt_ret (SE_var (i := 0) rfl (.inl rfl) rfl rfl)))))
noncomputable def fd_rungs_of (x : Fx w K mg) : FuncData := Classical.choose (x.c.def_ 18 (d := d18) rfl)
theorem D_rungs_of (x : Fx w K mg) : FunD K "rungs_of" "rungs_of" (defArgs (top 20)) (defBody (top 20)) (defScope (top 20)) [] [] (He.ga K "rungs_of") (fd_rungs_of x) := Classical.choose_spec (x.c.def_ 18 (d := d18) rfl)
theorem B_rungs_of (x : Fx w K mg) : Binds K (fd_rungs_of x) ["ladder"] [] := (D_rungs_of x).bindsN fun _ _ _ _ _ _ us hl => match us, hl with | [_], _ => rfl
theorem sc_rungs_of : FnScope ["ladder", "found", "one", "other", "many"] ["ladder"] (defScope (top 20)) := ⟨rfl, rfl, rfl, by decide +kernel, rfl, by decide +kernel, by decide +kernel⟩
noncomputable def b_rungs_of : Rho → Rs Fl := (stSeq (stSet [] 1 (evLst evNil))
  (stSeq (stFor (itZipB (evCons [] (evV 0) (evCons [] (evSl (evV 0) (evP (evC (.int 1))) evNoP) evNil))) (tgTup 2 (tgCons (tgName [] 2) (tgCons (tgName [] 3) tgNil)))
  (stSeq (stSet [] 4 (evCall F_common [] (aDat [] (ev2 subD (ev2 ixDD (evV 3) (evC (.int 0))) (ev2 ixDD (evV 2) (evC (.int 0)))) (aDat [] (ev2 subD (ev2 ixDD (evV 3) (evC (.int 1))) (ev2 ixDD (evV 2) (evC (.int 1)))) aNil))))
  (stExpr (evMut 1 W.isLst appendW (evCons [] (evTup (evCons [] (ev2 fdivD (ev2 subD (ev2 ixDD (evV 3) (evC (.int 0))) (ev2 ixDD (evV 2) (evC (.int 0)))) (evV 4)) (evCons [] (evV 4) evNil))) evNil)))))
  (stRet (evB (op1 tupleD) (arCons (evV 1) arNil)))))
noncomputable def F_rungs_of : Fn := fnOf [] 1 5 b_rungs_of
theorem ok_rungs_of (x : Fx w K mg) : FnG P w K mg base 2 (He.ga K "rungs_of") (fd_rungs_of x) ["ladder"] (spF K F_rungs_of) := FnG.ev (N := ["ladder", "found", "one", "other", "many"]) (io := []) (D_rungs_of x) sc_rungs_of rfl rfl fun cd A outer s H E hr hg =>
  (SSs_cons (SSt_set (i := 1) sc_rungs_of.nd rfl (.inl rfl) (SE_lst SL_nil) rfl (.inl rfl))
  (SSs_cons (SSt_for (L := [2, 3]) (passes_of rfl) rfl (SI_zipB rfl (n_zip x) (SL_cons (SE_var (i := 0) rfl (.inl rfl) rfl rfl) (SL_cons (SE_sl (SE_var (i := 0) rfl (.inl rfl) rfl rfl) (SP_some SE_int) SP_none) SL_nil rfl) rfl) rfl rfl) (SG_tup rfl (SGs_cons (SG_name (i := 2) (by decide) sc_rungs_of.nd rfl (.inl rfl) (.inl rfl)) (SGs_cons (SG_name (i := 3) (by decide) sc_rungs_of.nd rfl (.inl rfl) (.inl rfl)) SGs_nil rfl) rfl) rfl rfl)
  (SSs_cons (SSt_set (i := 4) sc_rungs_of.nd rfl (.inl rfl) (SE_call (ok_common x) (hr.mono (by decide)) hg (takes_of rfl rfl rfl rfl) rfl (g_common x) (D_common x).kp (B_common x) .nil RepDef.nil (SA_dat (SE_bin op_subD (SE_ix (ix_DD (hu_of hr)) (SE_var (i := 3) rfl (.inl rfl) rfl rfl) SE_int (fun _ _ => rfl)) (SE_ix (ix_DD (hu_of hr)) (SE_var (i := 2) rfl (.inl rfl) rfl rfl) SE_int (fun _ _ => rfl))) (SA_dat (SE_bin op_subD (SE_ix (ix_DD (hu_of hr)) (SE_var (i := 3) rfl (.inl rfl) rfl rfl) SE_int (fun _ _ => rfl)) (SE_ix (ix_DD (hu_of hr)) (SE_var (i := 2) rfl (.inl rfl) rfl rfl) SE_int (fun _ _ => rfl))) SA_nil rfl) rfl) rfl rfl rfl) rfl (.inl rfl))
  (SSs_one (SSt_expr (SE_mut mut_append PySem.F.plainAttrs_list PySem.F.slot_list_append PySem.F.type_list_append mt_append (pe_var (i := 1) rfl (.inl rfl) rfl rfl) (SL_cons (SE_tup (SL_cons (SE_bin op_fdivD (SE_bin op_subD (SE_ix (ix_DD (hu_of hr)) (SE_var (i := 3) rfl (.inl rfl) rfl rfl) SE_int (fun _ _ => rfl)) (SE_ix (ix_DD (hu_of hr)) (SE_var (i := 2) rfl (.inl rfl) rfl rfl) SE_int (fun _ _ => rfl))) (SE_var (i := 4) rfl (.inl rfl) rfl rfl)) (SL_cons (SE_var (i := 4) rfl (.inl rfl) rfl rfl) SL_nil rfl) rfl)) SL_nil rfl) rfl rfl rfl rfl rfl) rfl))) (fun _ => rfl))
  (SSs_one (SSt_ret (SE_callTy c_tuple rfl (n_tuple x) bt_tuple (SR_cons (SE_var (i := 1) rfl (.inl rfl) rfl rfl) SR_nil rfl) (by decide) rfl rfl rfl)))))
noncomputable def fd_rungs (x : Fx w K mg) : FuncData := Classical.choose (x.c.def_ 19 (d := d19) rfl)
theorem D_rungs (x : Fx w K mg) : FunD K "rungs" "rungs" (defArgs (top 22)) (defBody (top 22)) (defScope (top 22)) [] [] (He.ga K "rungs") (fd_rungs x) := Classical.choose_spec (x.c.def_ 19 (d := d19) rfl)
theorem B_rungs (x : Fx w K mg) : Binds K (fd_rungs x) ["ladders"] [] := (D_rungs x).bindsN fun _ _ _ _ _ _ us hl => match us, hl with | [_], _ => rfl
theorem sc_rungs : FnScope ["ladders", "ladder"] ["ladders"] (defScope (top 22)) := ⟨rfl, rfl, rfl, by decide +kernel, rfl, by decide +kernel, by decide +kernel⟩
noncomputable def b_rungs : Rho → Rs Fl := (stSeq (stExpr (evCall F_check_ladders [] (aDat [] (evV 0) aNil)))
  (stRet (evB (op1 tupleD) (arCons (evLc [] [1] (itSeq [] (evV 0)) (tgName [] 1) (.ok true) (evCall F_rungs_of [] (aDat [] (evV 1) aNil))) arNil))))
noncomputable def F_rungs : Fn := fnOf [] 1 2 b_rungs
theorem ok_rungs (x : Fx w K mg) : FnG P w K mg base 6 (He.ga K "rungs") (fd_rungs x) ["ladders"] (spF K F_rungs) := FnG.ev (N := ["ladders", "ladder"]) (io := []) (D_rungs x) sc_rungs rfl rfl fun cd A outer s H E hr hg =>
  (SSs_cons (SSt_expr (SE_call (ok_check_ladders x) (hr.mono (by decide)) hg (takes_of rfl rfl rfl rfl) rfl (g_check_ladders x) (D_check_ladders x).kp (B_check_ladders x) .nil RepDef.nil (SA_dat (SE_var (i := 0) rfl (.inl rfl) rfl rfl) SA_nil rfl) rfl rfl rfl) rfl)
  (SSs_one (SSt_ret (SE_callTy c_tuple rfl (n_tuple x) bt_tuple (SR_cons (SE_lc (own := [("ladder", 1)]) rfl sc_rungs.nd (SI_seq (SE_var (i := 0) rfl (.inl rfl) rfl rfl)) (blkOk_by (own := [("ladder", 1)]) (by kernel_rfl)) (fun _ _ _ _ _ => (SG_name (i := 1) (by decide) sc_rungs.nd rfl (.inl rfl) (.inr rfl))) (fun _ _ _ _ _ => STs_nil) (fun _ _ _ _ _ => (SE_call (ok_rungs_of x) (hr.mono (by decide)) hg takesF rfl (g_rungs_of x) (D_rungs_of x).kp (B_rungs_of x) .nil RepDef.nil (SA_dat (SE_var (i := 1) rfl (.inl rfl) rfl rfl) SA_nil rfl) rfl rfl rfl)) (fun _ => rfl)) SR_nil rfl) (by decide) rfl rfl rfl))))
noncomputable def fd__law_widths (x : Fx w K mg) : FuncData := Classical.choose (x.c.def_ 20 (d := d20) rfl)
theorem D__law_widths (x : Fx w K mg) : FunD K "_law_widths" "_law_widths" (defArgs (top 42)) (defBody (top 42)) (defScope (top 42)) [] [] (He.ga K "_law_widths") (fd__law_widths x) := Classical.choose_spec (x.c.def_ 20 (d := d20) rfl)
theorem B__law_widths (x : Fx w K mg) : Binds K (fd__law_widths x) ["_law_told_here"] [] := (D__law_widths x).bindsN fun _ _ _ _ _ _ us hl => match us, hl with | [_], _ => rfl
theorem sc__law_widths : FnScope ["_law_told_here", "_law_found", "_law_width", "_law_many"] ["_law_told_here"] (defScope (top 42)) := ⟨rfl, rfl, rfl, by decide +kernel, rfl, by decide +kernel, by decide +kernel⟩
noncomputable def b__law_widths : Rho → Rs Fl := (stSeq (stSet [] 1 (evLst evNil))
  (stSeq (stFor (itSeq [] (ev2 ixDD (evCall F_rungs [] (aDat [] (evTup (evCons [] (evV 0) evNil)) aNil)) (evC (.int 0)))) (tgTup 2 (tgCons (tgName [] 2) (tgCons (tgName [] 3) tgNil)))
  (stSet [] 1 (ev2 addD (evV 1) (ev2 mulD (evLst (evCons [] (evV 2) evNil)) (evV 3)))))
  (stRet (evB (op1 sortedD) (arCons (evV 1) arNil)))))
noncomputable def F__law_widths : Fn := fnOf [] 1 4 b__law_widths
theorem ok__law_widths (x : Fx w K mg) : FnG P w K mg base 7 (He.ga K "_law_widths") (fd__law_widths x) ["_law_told_here"] (spF K F__law_widths) := FnG.ev (N := ["_law_told_here", "_law_found", "_law_width", "_law_many"]) (io := []) (D__law_widths x) sc__law_widths rfl rfl fun cd A outer s H E hr hg =>
  (SSs_cons (SSt_set (i := 1) sc__law_widths.nd rfl (.inl rfl) (SE_lst SL_nil) rfl (.inl rfl))
  (SSs_cons (SSt_for (L := [2, 3]) (passes_of rfl) rfl (SI_seq (SE_ix (ix_DD (hu_of hr)) (SE_call (ok_rungs x) (hr.mono (by decide)) hg (takes_of rfl rfl rfl rfl) rfl (g_rungs x) (D_rungs x).kp (B_rungs x) .nil RepDef.nil (SA_dat (SE_tup (SL_cons (SE_var (i := 0) rfl (.inl rfl) rfl rfl) SL_nil rfl)) SA_nil rfl) rfl rfl rfl) SE_int (fun _ _ => rfl))) (SG_tup rfl (SGs_cons (SG_name (i := 2) (by decide) sc__law_widths.nd rfl (.inl rfl) (.inl rfl)) (SGs_cons (SG_name (i := 3) (by decide) sc__law_widths.nd rfl (.inl rfl) (.inl rfl)) SGs_nil rfl) rfl) rfl rfl)
  (SSs_one (SSt_set (i := 1) sc__law_widths.nd rfl (.inl rfl) (SE_bin op_addD (SE_var (i := 1) rfl (.inl rfl) rfl rfl) (SE_bin op_mulD (SE_lst (SL_cons (SE_var (i := 2) rfl (.inl rfl) rfl rfl) SL_nil rfl)) (SE_var (i := 3) rfl (.inl rfl) rfl rfl))) rfl (.inl rfl))) (fun _ => rfl))
  (SSs_one (SSt_ret (SE_callB (c_sorted rfl) rfl (n_sorted x) bt_sorted (SR_cons (SE_var (i := 1) rfl (.inl rfl) rfl rfl) SR_nil rfl) (by decide) rfl rfl rfl)))))
noncomputable def fd_sums_of (x : Fx w K mg) : FuncData := Classical.choose (x.c.def_ 21 (d := d21) rfl)
theorem D_sums_of (x : Fx w K mg) : FunD K "sums_of" "sums_of" (defArgs (top 21)) (defBody (top 21)) (defScope (top 21)) [] [] (He.ga K "sums_of") (fd_sums_of x) := Classical.choose_spec (x.c.def_ 21 (d := d21) rfl)
theorem B_sums_of (x : Fx w K mg) : Binds K (fd_sums_of x) ["ladder"] [] := (D_sums_of x).bindsN fun _ _ _ _ _ _ us hl => match us, hl with | [_], _ => rfl
theorem sc_sums_of : FnScope ["ladder", "found", "width", "many", "fresh", "total", "takes", "often"] ["ladder"] (defScope (top 21)) := ⟨rfl, rfl, rfl, by decide +kernel, rfl, by decide +kernel, by decide +kernel⟩
noncomputable def b_sums_of : Rho → Rs Fl := (stSeq (stSet [] 1 (evDic [] [((evC (.int 0)), (evTup evNil))]))
  (stSeq (stFor (itSeq [] (evCall F_rungs_of [] (aDat [] (evV 0) aNil))) (tgTup 2 (tgCons (tgName [] 2) (tgCons (tgName [] 3) tgNil)))
  (stSeq (stSet [] 4 evDic0)
  (stSeq (stForD (itDic [] 1 itemsOf) (tgTup 2 (tgCons (tgName [] 5) (tgCons (tgName [] 6) tgNil)))
  (stFor (itR1 (ev2 addD (evV 3) (evC (.int 1)))) (tgName [] 7)
  (stExpr (evMut 4 W.isDic setdW (evCons [] (ev2 addD (evV 5) (ev2 mulD (evV 7) (evV 2))) (evCons [] (evTup (evStar (evV 6) (evCons [] (evV 7) evNil))) evNil))))))
  (stSet [] 1 (evV 4)))))
  (stRet (evV 1))))
noncomputable def F_sums_of : Fn := fnOf [] 1 8 b_sums_of
theorem ok_sums_of (x : Fx w K mg) : FnG P w K mg base 3 (He.ga K "sums_of") (fd_sums_of x) ["ladder"] (spF K F_sums_of) := FnG.ev (N := ["ladder", "found", "width", "many", "fresh", "total", "takes", "often"]) (io := []) (D_sums_of x) sc_sums_of rfl rfl fun cd A outer s H E hr hg =>
  (SSs_cons (SSt_set (i := 1) sc_sums_of.nd rfl (.inl rfl) (SE_dic (SPs_cons SE_int (SE_tup SL_nil) SPs_nil) rfl rfl (fun z => nomatch z) (by decide) (by decide)) rfl (.inl rfl))
  (SSs_cons (SSt_for (L := [2, 3]) (passes_of rfl) rfl (SI_seq (SE_call (ok_rungs_of x) (hr.mono (by decide)) hg (takes_of rfl rfl rfl rfl) rfl (g_rungs_of x) (D_rungs_of x).kp (B_rungs_of x) .nil RepDef.nil (SA_dat (SE_var (i := 0) rfl (.inl rfl) rfl rfl) SA_nil rfl) rfl rfl rfl)) (SG_tup rfl (SGs_cons (SG_name (i := 2) (by decide) sc_sums_of.nd rfl (.inl rfl) (.inl rfl)) (SGs_cons (SG_name (i := 3) (by decide) sc_sums_of.nd rfl (.inl rfl) (.inl rfl)) SGs_nil rfl) rfl) rfl rfl)
  (SSs_cons (SSt_set (i := 4) sc_sums_of.nd rfl (.inl rfl) SE_dic0 rfl (.inl rfl))
  (SSs_cons (SSt_forD (L := [5, 6]) dw_items (passes_of rfl) rfl (pi_items (pe_var (i := 1) rfl (.inl rfl) rfl rfl) rfl rfl) (SG_tup rfl (SGs_cons (SG_name (i := 5) (by decide) sc_sums_of.nd rfl (.inl rfl) (.inl rfl)) (SGs_cons (SG_name (i := 6) (by decide) sc_sums_of.nd rfl (.inl rfl) (.inl rfl)) SGs_nil rfl) rfl) rfl rfl)
  (SSs_one (SSt_for (L := [7]) (passes_of rfl) rfl (SI_range1 rfl (n_range x) (SE_bin op_addD (SE_var (i := 3) rfl (.inl rfl) rfl rfl) SE_int) rfl) (SG_name (i := 7) (by decide) sc_sums_of.nd rfl (.inl rfl) (.inl rfl))
  (SSs_one (SSt_expr (SE_mut mut_setd PySem.F.plainAttrs_dict PySem.F.slot_dict_setdefault PySem.F.type_dict_setdefault mt_setdefault (pe_var (i := 4) rfl (.inl rfl) rfl rfl) (SL_cons (SE_bin op_addD (SE_var (i := 5) rfl (.inl rfl) rfl rfl) (SE_bin op_mulD (SE_var (i := 7) rfl (.inl rfl) rfl rfl) (SE_var (i := 2) rfl (.inl rfl) rfl rfl))) (SL_cons (SE_tup (SL_star (SE_var (i := 6) rfl (.inl rfl) rfl rfl) (SL_cons (SE_var (i := 7) rfl (.inl rfl) rfl rfl) SL_nil rfl) rfl)) SL_nil rfl) rfl) rfl rfl rfl rfl rfl) rfl)) (fun _ => rfl))) (fun _ => rfl))
  (SSs_one (SSt_set (i := 1) sc_sums_of.nd rfl (.inl rfl) (SE_var (i := 4) rfl (.inl rfl) rfl rfl) rfl (.inl rfl))))) (fun _ => rfl))
  (SSs_one (SSt_ret (SE_var (i := 1) rfl (.inl rfl) rfl rfl)))))
noncomputable def fd_sums (x : Fx w K mg) : FuncData := Classical.choose (x.c.def_ 22 (d := d22) rfl)
theorem D_sums (x : Fx w K mg) : FunD K "sums" "sums" (defArgs (top 23)) (defBody (top 23)) (defScope (top 23)) [] [] (He.ga K "sums") (fd_sums x) := Classical.choose_spec (x.c.def_ 22 (d := d22) rfl)
theorem B_sums (x : Fx w K mg) : Binds K (fd_sums x) ["ladders"] [] := (D_sums x).bindsN fun _ _ _ _ _ _ us hl => match us, hl with | [_], _ => rfl
theorem sc_sums : FnScope ["ladders", "rows", "ladder", "total", "row"] ["ladders"] (defScope (top 23)) := ⟨rfl, rfl, rfl, by decide +kernel, rfl, by decide +kernel, by decide +kernel⟩
noncomputable def b_sums : Rho → Rs Fl := (stSeq (stExpr (evCall F_check_ladders [] (aDat [] (evV 0) aNil)))
  (stSeq (stSet [] 1 (evLc [] [2] (itSeq [] (evV 0)) (tgName [] 2) (.ok true) (evCall F_sums_of [] (aDat [] (evV 2) aNil))))
  (stRet (evB (op1 tupleD) (arCons (evLc [] [3] (itSeq [] (evB (op1 sortedD) (arCons (ev2 ixDD (evV 1) (evC (.int 0))) arNil))) (tgName [] 3) (te (evB (op1 allD) (arCons (evLc [] [4] (itSeq [] (evV 1)) (tgName [] 4) (.ok true) (ev2 inXT (evV 3) (evV 4))) arNil))) (evV 3)) arNil)))))
noncomputable def F_sums : Fn := fnOf [] 1 5 b_sums
theorem ok_sums (x : Fx w K mg) : FnG P w K mg base 6 (He.ga K "sums") (fd_sums x) ["ladders"] (spF K F_sums) := FnG.ev (N := ["ladders", "rows", "ladder", "total", "row"]) (io := []) (D_sums x) sc_sums rfl rfl fun cd A outer s H E hr hg =>
  (SSs_cons (SSt_expr (SE_call (ok_check_ladders x) (hr.mono (by decide)) hg (takes_of rfl rfl rfl rfl) rfl (g_check_ladders x) (D_check_ladders x).kp (B_check_ladders x) .nil RepDef.nil (SA_dat (SE_var (i := 0) rfl (.inl rfl) rfl rfl) SA_nil rfl) rfl rfl rfl) rfl)
  (SSs_cons (SSt_set (i := 1) sc_sums.nd rfl (.inr rfl) (SE_lc (own := [("ladder", 2)]) rfl sc_sums.nd (SI_seq (SE_var (i := 0) rfl (.inl rfl) rfl rfl)) (blkOk_by (own := [("ladder", 2)]) (by kernel_rfl)) (fun _ _ _ _ _ => (SG_name (i := 2) (by decide) sc_sums.nd rfl (.inl rfl) (.inr rfl))) (fun _ _ _ _ _ => STs_nil) (fun _ _ _ _ _ => (SE_call (ok_sums_of x) (hr.mono (by decide)) hg takesF rfl (g_sums_of x) (D_sums_of x).kp (B_sums_of x) .nil RepDef.nil (SA_dat (SE_var (i := 2) rfl (.inl rfl) rfl rfl) SA_nil rfl) rfl rfl rfl)) (fun _ => rfl)) rfl (.inl rfl))
  (SSs_one (SSt_ret (SE_callTy c_tuple rfl (n_tuple x) bt_tuple (SR_cons (SE_lc (own := [("total", 3)]) rfl sc_sums.nd (SI_seq (SE_callB (c_sorted rfl) rfl (n_sorted x) bt_sorted (SR_cons (SE_ix (ix_DD (hu_of hr)) (SE_var (i := 1) rfl (.inr (.inl rfl)) rfl rfl) SE_int (fun _ _ => rfl)) SR_nil rfl) (by decide) rfl rfl rfl)) (blkOk_by (own := [("total", 3)]) (by kernel_rfl)) (fun _ _ _ _ _ => (SG_name (i := 3) (by decide) sc_sums.nd rfl (.inr rfl) (.inl rfl))) (fun _ _ _ _ _ => (STs_one (ST_truth (SE_callB (c_all rfl) rfl (n_all x) bt_all (SR_cons (SE_lc (own := [("row", 4)]) rfl sc_sums.nd (SI_seq (SE_var (i := 1) rfl (.inr (.inl rfl)) rfl rfl)) (blkOk_by (own := [("row", 4)]) (by kernel_rfl)) (fun _ _ _ _ _ => (SG_name (i := 4) (by decide) sc_sums.nd rfl (.inl rfl) (.inr rfl))) (fun _ _ _ _ _ => STs_nil) (fun _ _ _ _ _ => (SE_cmp (op_inXT (room65 hr)) (SE_var (i := 3) rfl (.inr (.inl rfl)) rfl rfl) (SE_var (i := 4) rfl (.inl rfl) rfl rfl) rfl)) (fun _ => rfl)) SR_nil rfl) (by decide) rfl rfl rfl) (fun _ => rfl)))) (fun _ _ _ _ _ => (SE_var (i := 3) rfl (.inr (.inl rfl)) rfl rfl)) (fun _ => rfl)) SR_nil rfl) (by decide) rfl rfl rfl)))))
noncomputable def fd_never_factors (x : Fx w K mg) : FuncData := Classical.choose (x.c.def_ 23 (d := d23) rfl)
theorem D_never_factors (x : Fx w K mg) : FunD K "never_factors" "never_factors" (defArgs (top 24)) (defBody (top 24)) (defScope (top 24)) [] [] (He.ga K "never_factors") (fd_never_factors x) := Classical.choose_spec (x.c.def_ 23 (d := d23) rfl)
theorem B_never_factors (x : Fx w K mg) : Binds K (fd_never_factors x) ["ladders"] [] := (D_never_factors x).bindsN fun _ _ _ _ _ _ us hl => match us, hl with | [_], _ => rfl
theorem sc_never_factors : FnScope ["ladders"] ["ladders"] (defScope (top 24)) := ⟨rfl, rfl, rfl, by decide +kernel, rfl, by decide +kernel, by decide +kernel⟩
noncomputable def b_never_factors : Rho → Rs Fl := (stRet (ev2 eqD (evCall F_sums [] (aDat [] (evV 0) aNil)) (evTup (evCons [] (evC (.int 0)) (evCons [] (ev2 ixDD (ev2 ixDD (ev2 ixDD (evV 0) (evC (.int 0))) (ev1 negD (evC (.int 1)))) (evC (.int 0))) evNil)))))
noncomputable def F_never_factors : Fn := fnOf [] 1 1 b_never_factors
theorem ok_never_factors (x : Fx w K mg) : FnG P w K mg base 7 (He.ga K "never_factors") (fd_never_factors x) ["ladders"] (spF K F_never_factors) := FnG.ev (N := ["ladders"]) (io := []) (D_never_factors x) sc_never_factors rfl rfl fun cd A outer s H E hr hg =>
  (SSs_one (SSt_ret (SE_cmp (op_eqDD hr.units) (SE_call (ok_sums x) (hr.mono (by decide)) hg (takes_of rfl rfl rfl rfl) rfl (g_sums x) (D_sums x).kp (B_sums x) .nil RepDef.nil (SA_dat (SE_var (i := 0) rfl (.inl rfl) rfl rfl) SA_nil rfl) rfl rfl rfl) (SE_tup (SL_cons SE_int (SL_cons (SE_ix (ix_DD (hu_of hr)) (SE_ix (ix_DD (hu_of hr)) (SE_ix (ix_DD (hu_of hr)) (SE_var (i := 0) rfl (.inl rfl) rfl rfl) SE_int (fun _ _ => rfl)) (SE_un un_negD SE_int) (fun _ _ => rfl)) SE_int (fun _ _ => rfl)) SL_nil rfl) rfl)) rfl)))
noncomputable def fd__law_cross (x : Fx w K mg) : FuncData := Classical.choose (x.c.def_ 24 (d := d24) rfl)
theorem D__law_cross (x : Fx w K mg) : FunD K "_law_cross" "_law_cross" (defArgs (top 36)) (defBody (top 36)) (defScope (top 36)) [] [] (He.ga K "_law_cross") (fd__law_cross x) := Classical.choose_spec (x.c.def_ 24 (d := d24) rfl)
theorem B__law_cross (x : Fx w K mg) : Binds K (fd__law_cross x) ["_law_a", "_law_b", "_law_c"] [] := (D__law_cross x).bindsN fun _ _ _ _ _ _ us hl => match us, hl with | [_, _, _], _ => rfl
theorem sc__law_cross : FnScope ["_law_a", "_law_b", "_law_c"] ["_law_a", "_law_b", "_law_c"] (defScope (top 36)) := ⟨rfl, rfl, rfl, by decide +kernel, rfl, by decide +kernel, by decide +kernel⟩
noncomputable def b__law_cross : Rho → Rs Fl := (stRet (ev2 subD (ev2 mulD (ev2 subD (ev2 ixDD (evV 1) (evC (.int 0))) (ev2 ixDD (evV 0) (evC (.int 0)))) (ev2 subD (ev2 ixDD (evV 2) (evC (.int 1))) (ev2 ixDD (evV 0) (evC (.int 1))))) (ev2 mulD (ev2 subD (ev2 ixDD (evV 1) (evC (.int 1))) (ev2 ixDD (evV 0) (evC (.int 1)))) (ev2 subD (ev2 ixDD (evV 2) (evC (.int 0))) (ev2 ixDD (evV 0) (evC (.int 0)))))))
noncomputable def F__law_cross : Fn := fnOf [] 3 3 b__law_cross
theorem ok__law_cross (x : Fx w K mg) : FnG P w K mg base 1 (He.ga K "_law_cross") (fd__law_cross x) ["_law_a", "_law_b", "_law_c"] (spF K F__law_cross) := FnG.ev (N := ["_law_a", "_law_b", "_law_c"]) (io := []) (D__law_cross x) sc__law_cross rfl rfl fun cd A outer s H E hr hg =>
  (SSs_one (SSt_ret (SE_bin op_subD (SE_bin op_mulD (SE_bin op_subD (SE_ix (ix_DD (hu_of hr)) (SE_var (i := 1) rfl (.inl rfl) rfl rfl) SE_int (fun _ _ => rfl)) (SE_ix (ix_DD (hu_of hr)) (SE_var (i := 0) rfl (.inl rfl) rfl rfl) SE_int (fun _ _ => rfl))) (SE_bin op_subD (SE_ix (ix_DD (hu_of hr)) (SE_var (i := 2) rfl (.inl rfl) rfl rfl) SE_int (fun _ _ => rfl)) (SE_ix (ix_DD (hu_of hr)) (SE_var (i := 0) rfl (.inl rfl) rfl rfl) SE_int (fun _ _ => rfl)))) (SE_bin op_mulD (SE_bin op_subD (SE_ix (ix_DD (hu_of hr)) (SE_var (i := 1) rfl (.inl rfl) rfl rfl) SE_int (fun _ _ => rfl)) (SE_ix (ix_DD (hu_of hr)) (SE_var (i := 0) rfl (.inl rfl) rfl rfl) SE_int (fun _ _ => rfl))) (SE_bin op_subD (SE_ix (ix_DD (hu_of hr)) (SE_var (i := 2) rfl (.inl rfl) rfl rfl) SE_int (fun _ _ => rfl)) (SE_ix (ix_DD (hu_of hr)) (SE_var (i := 0) rfl (.inl rfl) rfl rfl) SE_int (fun _ _ => rfl)))))))
noncomputable def fd__law_lower (x : Fx w K mg) : FuncData := Classical.choose (x.c.def_ 25 (d := d25) rfl)
theorem D__law_lower (x : Fx w K mg) : FunD K "_law_lower" "_law_lower" (defArgs (top 37)) (defBody (top 37)) (defScope (top 37)) [] [] (He.ga K "_law_lower") (fd__law_lower x) := Classical.choose_spec (x.c.def_ 25 (d := d25) rfl)
theorem B__law_lower (x : Fx w K mg) : Binds K (fd__law_lower x) ["_law_rows_here"] [] := (D__law_lower x).bindsN fun _ _ _ _ _ _ us hl => match us, hl with | [_], _ => rfl
theorem sc__law_lower : FnScope ["_law_rows_here", "_law_found", "_law_spot"] ["_law_rows_here"] (defScope (top 37)) := ⟨rfl, rfl, rfl, by decide +kernel, rfl, by decide +kernel, by decide +kernel⟩
noncomputable def b__law_lower : Rho → Rs Fl := (stSeq (stSet [] 1 (evLst evNil))
  (stSeq (stFor (itSeq [] (evV 0)) (tgName [] 2)
  (stSeq (stWhile (teAnd (asT (ev2 gtD (evB (op1 lenD) (arCons (evV 1) arNil)) (evC (.int 1)))) (asT (ev2 leD (evCall F__law_cross [] (aDat [] (ev2 ixDD (evV 1) (ev1 negD (evC (.int 2)))) (aDat [] (ev2 ixDD (evV 1) (ev1 negD (evC (.int 1)))) (aDat [] (evV 2) aNil)))) (evC (.int 0)))))
  (stExpr (evMut 1 W.isLst popW evNil)))
  (stExpr (evMut 1 W.isLst appendW (evCons [] (evV 2) evNil)))))
  (stRet (evB (op1 tupleD) (arCons (evV 1) arNil)))))
noncomputable def F__law_lower : Fn := fnOf [] 1 3 b__law_lower
theorem ok__law_lower (x : Fx w K mg) : FnG P w K mg base 2 (He.ga K "_law_lower") (fd__law_lower x) ["_law_rows_here"] (spF K F__law_lower) := FnG.ev (N := ["_law_rows_here", "_law_found", "_law_spot"]) (io := []) (D__law_lower x) sc__law_lower rfl rfl fun cd A outer s H E hr hg =>
  (SSs_cons (SSt_set (i := 1) sc__law_lower.nd rfl (.inl rfl) (SE_lst SL_nil) rfl (.inl rfl))
  (SSs_cons (SSt_for (L := [2]) (passes_of rfl) rfl (SI_seq (SE_var (i := 0) rfl (.inl rfl) rfl rfl)) (SG_name (i := 2) (by decide) sc__law_lower.nd rfl (.inl rfl) (.inl rfl))
  (SSs_cons (SSt_while (passes_of rfl) (SW.t (SW_and (ST_cmp op_gtD (SE_callB c_len rfl (n_len x) bt_len (SR_cons (SE_var (i := 1) rfl (.inl rfl) rfl rfl) SR_nil rfl) (by decide) rfl rfl rfl) SE_int rfl) (SW_and1 (ST_cmp op_leD (SE_call (ok__law_cross x) (hr.mono (by decide)) hg (takes_of rfl rfl rfl rfl) rfl (g__law_cross x) (D__law_cross x).kp (B__law_cross x) .nil RepDef.nil (SA_dat (SE_ix (ix_DD (hu_of hr)) (SE_var (i := 1) rfl (.inl rfl) rfl rfl) (SE_un un_negD SE_int) (fun _ _ => rfl)) (SA_dat (SE_ix (ix_DD (hu_of hr)) (SE_var (i := 1) rfl (.inl rfl) rfl rfl) (SE_un un_negD SE_int) (fun _ _ => rfl)) (SA_dat (SE_var (i := 2) rfl (.inl rfl) rfl rfl) SA_nil rfl) rfl) rfl) rfl rfl rfl) SE_int rfl))))
  (SSs_one (SSt_expr (SE_mut0 mut_pop PySem.F.plainAttrs_list PySem.F.slot_list_pop PySem.F.type_list_pop mt_pop (pe_var (i := 1) rfl (.inl rfl) rfl rfl) rfl rfl) rfl)))
  (SSs_one (SSt_expr (SE_mut mut_append PySem.F.plainAttrs_list PySem.F.slot_list_append PySem.F.type_list_append mt_append (pe_var (i := 1) rfl (.inl rfl) rfl rfl) (SL_cons (SE_var (i := 2) rfl (.inl rfl) rfl rfl) SL_nil rfl) rfl rfl rfl rfl rfl) rfl))) (fun _ => rfl))
  (SSs_one (SSt_ret (SE_callTy c_tuple rfl (n_tuple x) bt_tuple (SR_cons (SE_var (i := 1) rfl (.inl rfl) rfl rfl) SR_nil rfl) (by decide) rfl rfl rfl)))))
noncomputable def fd__law_power (x : Fx w K mg) : FuncData := Classical.choose (x.c.def_ 26 (d := d26) rfl)
theorem D__law_power (x : Fx w K mg) : FunD K "_law_power" "_law_power" (defArgs (top 38)) (defBody (top 38)) (defScope (top 38)) [] [] (He.ga K "_law_power") (fd__law_power x) := Classical.choose_spec (x.c.def_ 26 (d := d26) rfl)
theorem B__law_power (x : Fx w K mg) : Binds K (fd__law_power x) ["_law_number_here", "_law_prime"] [] := (D__law_power x).bindsN fun _ _ _ _ _ _ us hl => match us, hl with | [_, _], _ => rfl
theorem sc__law_power : FnScope ["_law_number_here", "_law_prime", "_law_found"] ["_law_number_here", "_law_prime"] (defScope (top 38)) := ⟨rfl, rfl, rfl, by decide +kernel, rfl, by decide +kernel, by decide +kernel⟩
noncomputable def b__law_power : Rho → Rs Fl := (stSeq (stSet [] 2 (evC (.int 0)))
  (stSeq (stWhile (asT (ev2 eqD (ev2 modD (evB (op1 intD) (arCons (evV 0) arNil)) (evV 1)) (evC (.int 0))))
  (stPar [] [0, 2] (seCons [] (ev2 fdivD (evB (op1 intD) (arCons (evV 0) arNil)) (evV 1)) (seCons [] (ev2 addD (evV 2) (evC (.int 1))) arNil))))
  (stRet (evV 2))))
noncomputable def F__law_power : Fn := fnOf [] 2 3 b__law_power
theorem ok__law_power (x : Fx w K mg) : FnG P w K mg base 1 (He.ga K "_law_power") (fd__law_power x) ["_law_number_here", "_law_prime"] (spF K F__law_power) := FnG.ev (N := ["_law_number_here", "_law_prime", "_law_found"]) (io := []) (D__law_power x) sc__law_power rfl rfl fun cd A outer s H E hr hg =>
  (SSs_cons (SSt_set (i := 2) sc__law_power.nd rfl (.inl rfl) SE_int rfl (.inl rfl))
  (SSs_cons (SSt_while (passes_of rfl) (ST_cmp (op_eqDD hr.units) (SE_bin op_modD (SE_callTy c_int rfl (n_int x) bt_int (SR_cons (SE_var (i := 0) rfl (.inl rfl) rfl rfl) SR_nil rfl) (by decide) rfl rfl rfl) (SE_var (i := 1) rfl (.inl rfl) rfl rfl)) SE_int rfl)
  (SSs_one (SSt_par (i := 0) (j := 2) rfl sc__law_power.nd rfl rfl (by decide) rfl rfl (SSet_cons (SE_bin op_fdivD (SE_callTy c_int rfl (n_int x) bt_int (SR_cons (SE_var (i := 0) rfl (.inl rfl) rfl rfl) SR_nil rfl) (by decide) rfl rfl rfl) (SE_var (i := 1) rfl (.inl rfl) rfl rfl)) (SSet_cons (SE_bin op_addD (SE_var (i := 2) rfl (.inl rfl) rfl rfl) SE_int) SSet_nil rfl) rfl) rfl rfl)))
  (SSs_one (SSt_ret (SE_var (i := 2) rfl (.inl rfl) rfl rfl)))))
noncomputable def fd__law_climb (x : Fx w K mg) : FuncData := Classical.choose (x.c.def_ 27 (d := d27) rfl)
theorem D__law_climb (x : Fx w K mg) : FunD K "_law_climb" "_law_climb" (defArgs (top 39)) (defBody (top 39)) (defScope (top 39)) [] [] (He.ga K "_law_climb") (fd__law_climb x) := Classical.choose_spec (x.c.def_ 27 (d := d27) rfl)
theorem B__law_climb (x : Fx w K mg) : Binds K (fd__law_climb x) ["_law_row_here", "_law_prime"] [] := (D__law_climb x).bindsN fun _ _ _ _ _ _ us hl => match us, hl with | [_, _], _ => rfl
theorem sc__law_climb : FnScope ["_law_row_here", "_law_prime", "_law_spots", "_law_low", "_law_k", "_law_height"] ["_law_row_here", "_law_prime"] (defScope (top 39)) := ⟨rfl, rfl, rfl, by decide +kernel, rfl, by decide +kernel, by decide +kernel⟩
noncomputable def b__law_climb : Rho → Rs Fl := (stSeq (stSet [] 2 (evLc [] [4] (itR1 (evB (op1 lenD) (arCons (evV 0) arNil))) (tgName [] 4) (asT (ev2 neD (ev2 ixDD (evV 0) (evV 4)) (evC (.int 0)))) (evTup (evCons [] (evV 4) (evCons [] (evCall F__law_power [] (aDat [] (ev2 ixDD (evV 0) (evV 4)) (aDat [] (evV 1) aNil))) evNil)))))
  (stSeq (stSet [] 3 (evB (op1 minD) (arCons (evLc [] [4, 5] (itSeq [] (evV 2)) (tgTup 2 (tgCons (tgName [] 4) (tgCons (tgName [] 5) tgNil))) (.ok true) (evV 5)) arNil)))
  (stRet (evCall F__law_lower [] (aDat [] (evLc [] [4, 5] (itSeq [] (evV 2)) (tgTup 2 (tgCons (tgName [] 4) (tgCons (tgName [] 5) tgNil))) (.ok true) (evTup (evCons [] (evV 4) (evCons [] (ev2 subD (evV 5) (evV 3)) evNil)))) aNil)))))
noncomputable def F__law_climb : Fn := fnOf [] 2 6 b__law_climb
theorem ok__law_climb (x : Fx w K mg) : FnG P w K mg base 3 (He.ga K "_law_climb") (fd__law_climb x) ["_law_row_here", "_law_prime"] (spF K F__law_climb) := FnG.ev (N := ["_law_row_here", "_law_prime", "_law_spots", "_law_low", "_law_k", "_law_height"]) (io := []) (D__law_climb x) sc__law_climb rfl rfl fun cd A outer s H E hr hg =>
  (SSs_cons (SSt_setLc (i := 2) (own := [("_law_k", 4)]) rfl sc__law_climb.nd rfl rfl (sw_true rfl rfl rfl (by decide +kernel)) (SI_range1 rfl (n_range x) (SE_callB c_len rfl (n_len x) bt_len (SR_cons (SE_var (i := 0) rfl (.inr (.inl rfl)) rfl rfl) SR_nil rfl) (by decide) rfl rfl rfl) rfl) (blkOk_by (own := [("_law_k", 4)]) (by kernel_rfl)) (fun _ _ _ _ _ => (SG_name (i := 4) (by decide) sc__law_climb.nd rfl (.inl rfl) (.inr rfl))) (fun _ _ _ _ _ => (STs_one (ST_cmp (op_neDD hr.units) (SE_ix (ix_DD (hu_of hr)) (SE_var (i := 0) rfl (.inr (.inl rfl)) rfl rfl) (SE_var (i := 4) rfl (.inl rfl) rfl rfl) (fun _ _ => rfl)) SE_int rfl))) (fun _ _ _ _ _ => (SE_tup (SL_cons (SE_var (i := 4) rfl (.inl rfl) rfl rfl) (SL_cons (SE_call (ok__law_power x) (hr.mono (by decide)) hg takesF rfl (g__law_power x) (D__law_power x).kp (B__law_power x) .nil RepDef.nil (SA_dat (SE_ix (ix_DD (hu_of hr)) (SE_var (i := 0) rfl (.inr (.inl rfl)) rfl rfl) (SE_var (i := 4) rfl (.inl rfl) rfl rfl) (fun _ _ => rfl)) (SA_dat (SE_var (i := 1) rfl (.inr (.inl rfl)) rfl rfl) SA_nil rfl) rfl) rfl rfl rfl) SL_nil rfl) rfl))) (fun _ => rfl))
  (SSs_cons (SSt_set (i := 3) sc__law_climb.nd rfl (.inr rfl) (SE_callB (c_min rfl) rfl (n_min x) bt_min (SR_cons (SE_lc (own := [("_law_k", 4), ("_law_height", 5)]) rfl sc__law_climb.nd (SI_seq (SE_var (i := 2) rfl (.inl rfl) rfl rfl)) (blkOk_by (own := [("_law_k", 4), ("_law_height", 5)]) (by kernel_rfl)) (fun _ _ _ _ _ => (SG_tup rfl (SGs_cons (SG_name (i := 4) (by decide) sc__law_climb.nd rfl (.inl rfl) (.inr rfl)) (SGs_cons (SG_name (i := 5) (by decide) sc__law_climb.nd rfl (.inl rfl) (.inr rfl)) SGs_nil rfl) rfl) rfl rfl)) (fun _ _ _ _ _ => STs_nil) (fun _ _ _ _ _ => (SE_var (i := 5) rfl (.inl rfl) rfl rfl)) (fun _ => rfl)) SR_nil rfl) (by decide) rfl rfl rfl) rfl (.inl rfl))
  (SSs_one (SSt_ret (SE_call (ok__law_lower x) (hr.mono (by decide)) hg (takes_of rfl rfl rfl rfl) rfl (g__law_lower x) (D__law_lower x).kp (B__law_lower x) .nil RepDef.nil (SA_dat (SE_lc (own := [("_law_k", 4), ("_law_height", 5)]) rfl sc__law_climb.nd (SI_seq (SE_var (i := 2) rfl (.inl rfl) rfl rfl)) (blkOk_by (own := [("_law_k", 4), ("_law_height", 5)]) (by kernel_rfl)) (fun _ _ _ _ _ => (SG_tup rfl (SGs_cons (SG_name (i := 4) (by decide) sc__law_climb.nd rfl (.inl rfl) (.inr rfl)) (SGs_cons (SG_name (i := 5) (by decide) sc__law_climb.nd rfl (.inl rfl) (.inr rfl)) SGs_nil rfl) rfl) rfl rfl)) (fun _ _ _ _ _ => STs_nil) (fun _ _ _ _ _ => (SE_tup (SL_cons (SE_var (i := 4) rfl (.inl rfl) rfl rfl) (SL_cons (SE_bin op_subD (SE_var (i := 5) rfl (.inl rfl) rfl rfl) (SE_var (i := 3) rfl (.inr (.inl rfl)) rfl rfl)) SL_nil rfl) rfl))) (fun _ => rfl)) SA_nil rfl) rfl rfl rfl)))))
noncomputable def fd__law_right (x : Fx w K mg) : FuncData := Classical.choose (x.c.def_ 28 (d := d28) rfl)
theorem D__law_right (x : Fx w K mg) : FunD K "_law_right" "_law_right" (defArgs (top 43)) (defBody (top 43)) (defScope (top 43)) [] [] (He.ga K "_law_right") (fd__law_right x) := Classical.choose_spec (x.c.def_ 28 (d := d28) rfl)
theorem B__law_right (x : Fx w K mg) : Binds K (fd__law_right x) ["_law_jug_here"] [] := (D__law_right x).bindsN fun _ _ _ _ _ _ us hl => match us, hl with | [_], _ => rfl
theorem sc__law_right : FnScope ["_law_jug_here", "_law_turn", "_law_prime", "_law_other_prime", "_law_one", "_law_two", "_law_last", "_law_whole", "_law_row_here_here", "_law_told", "_law_every", "_law_some", "_law_degrees", "_law_each", "_law_degree"] ["_law_jug_here"] (defScope (top 43)) := ⟨rfl, rfl, rfl, by decide +kernel, rfl, by decide +kernel, by decide +kernel⟩
noncomputable def b__law_right : Rho → Rs Fl := (stSeq (stFor (itR1 (evC (.int 5))) (tgName [0] 1)
  (stSeq (stPar [0] [2, 3] (seCons [0] (evCall F__law_pick [] (aOwn (evV 0) (aDat [0] (evLst (evCons [0] (evC (.int 2)) (evCons [0] (evC (.int 3)) (evCons [0] (evC (.int 5)) (evCons [0] (evC (.int 7)) (evCons [0] (evC (.int 997)) evNil)))))) aNil))) (seCons [0] (evCall F__law_pick [] (aOwn (evV 0) (aDat [0] (evLst (evCons [0] (evC (.int 2)) (evCons [0] (evC (.int 3)) (evCons [0] (evC (.int 11)) (evCons [0] (evC (.int 13)) evNil))))) aNil))) arNil)))
  (stSeq (stPar [0] [4, 5, 6] (seCons [0] (evCall F__law_row [] (aOwn (evV 0) (aDat [0] (evV 2) aNil))) (seCons [0] (evCall F__law_row [] (aOwn (evV 0) (aDat [0] (evV 2) aNil))) (seCons [0] (evCall F__law_row [] (aOwn (evV 0) (aDat [0] (evV 3) aNil))) arNil))))
  (stSeq (stSet [0] 7 (evCall F__law_multiplied [] (aDat [0] (evV 4) (aDat [0] (evV 5) aNil))))
  (stSeq (stIf (teOr (asT (ev2 neD (evCall F_multiplied [] (aDat [0] (evV 4) (aDat [0] (evV 5) aNil))) (evV 7))) (asT (ev2 neD (evCallK F_multiplied 0 2 [1, 0] [] aNil (aDat [0] (evV 5) (aDat [0] (evV 4) aNil))) (evV 7))))
  (stRet (evC (.bl false)))
  stNx)
  (stSeq (stFor (itSeq [0] (evLst (evCons [0] (evV 4) (evCons [0] (evV 5) (evCons [0] (evV 6) (evCons [0] (evV 7) evNil)))))) (tgName [0] 8)
  (stSeq (stSet [0] 9 (evLst (evCons [0] (evCall F_told_by [] (aDat [0] (evV 8) (aDat [0] (evV 2) aNil))) (evCons [0] (evCallK F_told_by 0 2 [1, 0] [] aNil (aDat [0] (evV 3) (aDat [0] (evV 8) aNil))) evNil))))
  (stIf (asT (ev2 neD (evB (op1 reprX) (arCons (evV 9) arNil)) (evB (op1 reprX) (arCons (evLst (evCons [0] (evCall F__law_climb [] (aDat [0] (evV 8) (aDat [0] (evV 2) aNil))) (evCons [0] (evCall F__law_climb [] (aDat [0] (evV 8) (aDat [0] (evV 3) aNil))) evNil))) arNil))))
  (stRet (evC (.bl false)))
  stNx)))
  (stSeq (stIf (asT (ev2 neD (evCall F__law_widths [] (aDat [0] (evCall F_told_by [] (aDat [0] (evV 7) (aDat [0] (evV 2) aNil))) aNil)) (evB (op1 sortedD) (arCons (ev2 addD (evCall F__law_widths [] (aDat [0] (evCall F_told_by [] (aDat [0] (evV 4) (aDat [0] (evV 2) aNil))) aNil)) (evCall F__law_widths [] (aDat [0] (evCall F_told_by [] (aDat [0] (evV 5) (aDat [0] (evV 2) aNil))) aNil))) arNil))))
  (stRet (evC (.bl false)))
  stNx)
  (stSeq (stSet [0] 10 (evCall F_multiplied [] (aDat [0] (evV 7) (aDat [0] (evV 6) aNil))))
  (stSeq (stSet [0] 11 (evB (op1 tupleD) (arCons (evLc [0] [13] (itSeq [0] (evB (op1 sortSetI) (arCons (evLst (evCons [0] (evV 2) (evCons [0] (evV 3) evNil))) arNil))) (tgName [0] 13) (.ok true) (evCall F_told_by [] (aDat [0] (evV 10) (aDat [0] (evV 13) aNil)))) arNil)))
  (stSeq (stSet [0] 12 (evLst (evCons [0] (ev2 subD (evB (op1 lenD) (arCons (evV 4) arNil)) (evC (.int 1))) (evCons [0] (ev2 subD (evB (op1 lenD) (arCons (evV 5) arNil)) (evC (.int 1))) (evCons [0] (ev2 subD (evB (op1 lenD) (arCons (evV 6) arNil)) (evC (.int 1))) (evCons [0] (ev2 subD (evB (op1 lenD) (arCons (evV 7) arNil)) (evC (.int 1))) evNil))))))
  (stIf (teOr (asT (ev2 neD (evLc [0] [14] (itSeq [0] (evV 12)) (tgName [0] 14) (asT (ev2 notinXT (evV 14) (evCall F_sums [] (aDat [0] (evV 11) aNil)))) (evV 14)) (evLst evNil))) (te (evCall F_never_factors [] (aDat [0] (evV 11) aNil))))
  (stRet (evC (.bl false)))
  stNx)))))))))))
  (stRet (evC (.bl true))))
noncomputable def F__law_right : Fn := fnOf [0] 1 15 b__law_right
theorem ok__law_right (x : Fx w K mg) : FnG P w K mg base 8 (He.ga K "_law_right") (fd__law_right x) ["_law_jug_here"] (spF K F__law_right) := FnG.ev (N := ["_law_jug_here", "_law_turn", "_law_prime", "_law_other_prime", "_law_one", "_law_two", "_law_last", "_law_whole", "_law_row_here_here", "_law_told", "_law_every", "_law_some", "_law_degrees", "_law_each", "_law_degree"]) (io := [0]) (D__law_right x) sc__law_right rfl rfl fun cd A outer s H E hr hg =>
  (SSs_cons (SSt_for (L := [1]) (passes_of rfl) rfl (SI_range1 rfl (n_range x) SE_int rfl) (SG_name (i := 1) (by decide) sc__law_right.nd rfl (.inl rfl) (.inl rfl))
  (SSs_cons (SSt_par (i := 2) (j := 3) rfl sc__law_right.nd rfl rfl (by decide) rfl rfl (SSet_cons (SE_call (ok__law_pick x) (hr.mono (by decide)) hg (takes_of rfl rfl rfl rfl) rfl (g__law_pick x) (D__law_pick x).kp (B__law_pick x) .nil RepDef.nil (SA_own (SE_var (i := 0) rfl (.inl rfl) rfl rfl) (SA_dat (SE_lst (SL_cons SE_int (SL_cons SE_int (SL_cons SE_int (SL_cons SE_int (SL_cons SE_int SL_nil rfl) rfl) rfl) rfl) rfl)) SA_nil rfl) rfl) rfl rfl rfl) (SSet_cons (SE_call (ok__law_pick x) (hr.mono (by decide)) hg (takes_of rfl rfl rfl rfl) rfl (g__law_pick x) (D__law_pick x).kp (B__law_pick x) .nil RepDef.nil (SA_own (SE_var (i := 0) rfl (.inl rfl) rfl rfl) (SA_dat (SE_lst (SL_cons SE_int (SL_cons SE_int (SL_cons SE_int (SL_cons SE_int SL_nil rfl) rfl) rfl) rfl)) SA_nil rfl) rfl) rfl rfl rfl) SSet_nil rfl) rfl) rfl rfl)
  (SSs_cons (SSt_par3 (i := 4) (j := 5) (l := 6) rfl sc__law_right.nd rfl rfl rfl (by decide) (by decide) (by decide) rfl rfl rfl (SSet_cons (SE_call (ok__law_row x) (hr.mono (by decide)) hg (takes_of rfl rfl rfl rfl) rfl (g__law_row x) (D__law_row x).kp (B__law_row x) .nil RepDef.nil (SA_own (SE_var (i := 0) rfl (.inl rfl) rfl rfl) (SA_dat (SE_var (i := 2) rfl (.inl rfl) rfl rfl) SA_nil rfl) rfl) rfl rfl rfl) (SSet_cons (SE_call (ok__law_row x) (hr.mono (by decide)) hg (takes_of rfl rfl rfl rfl) rfl (g__law_row x) (D__law_row x).kp (B__law_row x) .nil RepDef.nil (SA_own (SE_var (i := 0) rfl (.inl rfl) rfl rfl) (SA_dat (SE_var (i := 2) rfl (.inl rfl) rfl rfl) SA_nil rfl) rfl) rfl rfl rfl) (SSet_cons (SE_call (ok__law_row x) (hr.mono (by decide)) hg (takes_of rfl rfl rfl rfl) rfl (g__law_row x) (D__law_row x).kp (B__law_row x) .nil RepDef.nil (SA_own (SE_var (i := 0) rfl (.inl rfl) rfl rfl) (SA_dat (SE_var (i := 3) rfl (.inl rfl) rfl rfl) SA_nil rfl) rfl) rfl rfl rfl) SSet_nil rfl) rfl) rfl) rfl rfl)
  (SSs_cons (SSt_set (i := 7) sc__law_right.nd rfl (.inl rfl) (SE_call (ok__law_multiplied x) (hr.mono (by decide)) hg (takes_of rfl rfl rfl rfl) rfl (g__law_multiplied x) (D__law_multiplied x).kp (B__law_multiplied x) .nil RepDef.nil (SA_dat (SE_var (i := 4) rfl (.inl rfl) rfl rfl) (SA_dat (SE_var (i := 5) rfl (.inl rfl) rfl rfl) SA_nil rfl) rfl) rfl rfl rfl) rfl (.inl rfl))
  (SSs_cons (SSt_if (SW.t (SW_or (ST_cmp (op_neDD hr.units) (SE_call (ok_multiplied x) (hr.mono (by decide)) hg (takes_of rfl rfl rfl rfl) rfl (g_multiplied x) (D_multiplied x).kp (B_multiplied x) .nil RepDef.nil (SA_dat (SE_var (i := 4) rfl (.inl rfl) rfl rfl) (SA_dat (SE_var (i := 5) rfl (.inl rfl) rfl rfl) SA_nil rfl) rfl) rfl rfl rfl) (SE_var (i := 7) rfl (.inl rfl) rfl rfl) rfl) (SW_or1 (ST_cmp (op_neDD hr.units) (SE_callK0 (ok_multiplied x) (hr.mono (by decide)) hg (takes_of rfl rfl rfl rfl) rfl (g_multiplied x) (D_multiplied x).kp (kp_of (D_multiplied x) 0 ["second", "first"] [1, 0] fun _ _ _ _ _ _ us ws l1 l2 => match us, ws, l1, l2 with | [], [_, _], _, _ => rfl) .nil RepDef.nil (SK_dat (SE_var (i := 5) rfl (.inl rfl) rfl rfl) (SK_dat (SE_var (i := 4) rfl (.inl rfl) rfl rfl) SK_nil)) rfl rfl rfl rfl rfl) (SE_var (i := 7) rfl (.inl rfl) rfl rfl) rfl))))
  (SSs_one (SSt_ret SE_bl))
  SSs_nil)
  (SSs_cons (SSt_for (L := [8]) (passes_of rfl) rfl (SI_seq (SE_lst (SL_cons (SE_var (i := 4) rfl (.inl rfl) rfl rfl) (SL_cons (SE_var (i := 5) rfl (.inl rfl) rfl rfl) (SL_cons (SE_var (i := 6) rfl (.inl rfl) rfl rfl) (SL_cons (SE_var (i := 7) rfl (.inl rfl) rfl rfl) SL_nil rfl) rfl) rfl) rfl))) (SG_name (i := 8) (by decide) sc__law_right.nd rfl (.inl rfl) (.inl rfl))
  (SSs_cons (SSt_set (i := 9) sc__law_right.nd rfl (.inl rfl) (SE_lst (SL_cons (SE_call (ok_told_by x) (hr.mono (by decide)) hg (takes_of rfl rfl rfl rfl) rfl (g_told_by x) (D_told_by x).kp (B_told_by x) .nil RepDef.nil (SA_dat (SE_var (i := 8) rfl (.inl rfl) rfl rfl) (SA_dat (SE_var (i := 2) rfl (.inl rfl) rfl rfl) SA_nil rfl) rfl) rfl rfl rfl) (SL_cons (SE_callK0 (ok_told_by x) (hr.mono (by decide)) hg (takes_of rfl rfl rfl rfl) rfl (g_told_by x) (D_told_by x).kp (kp_of (D_told_by x) 0 ["prime", "row"] [1, 0] fun _ _ _ _ _ _ us ws l1 l2 => match us, ws, l1, l2 with | [], [_, _], _, _ => rfl) .nil RepDef.nil (SK_dat (SE_var (i := 3) rfl (.inl rfl) rfl rfl) (SK_dat (SE_var (i := 8) rfl (.inl rfl) rfl rfl) SK_nil)) rfl rfl rfl rfl rfl) SL_nil rfl) rfl)) rfl (.inl rfl))
  (SSs_one (SSt_if (ST_cmp (op_neDD hr.units) (SE_callB (c_reprX hg hr.units) rfl (n_repr x) bt_repr (SR_cons (SE_var (i := 9) rfl (.inl rfl) rfl rfl) SR_nil rfl) (by decide) rfl rfl rfl) (SE_callB (c_reprX hg hr.units) rfl (n_repr x) bt_repr (SR_cons (SE_lst (SL_cons (SE_call (ok__law_climb x) (hr.mono (by decide)) hg (takes_of rfl rfl rfl rfl) rfl (g__law_climb x) (D__law_climb x).kp (B__law_climb x) .nil RepDef.nil (SA_dat (SE_var (i := 8) rfl (.inl rfl) rfl rfl) (SA_dat (SE_var (i := 2) rfl (.inl rfl) rfl rfl) SA_nil rfl) rfl) rfl rfl rfl) (SL_cons (SE_call (ok__law_climb x) (hr.mono (by decide)) hg (takes_of rfl rfl rfl rfl) rfl (g__law_climb x) (D__law_climb x).kp (B__law_climb x) .nil RepDef.nil (SA_dat (SE_var (i := 8) rfl (.inl rfl) rfl rfl) (SA_dat (SE_var (i := 3) rfl (.inl rfl) rfl rfl) SA_nil rfl) rfl) rfl rfl rfl) SL_nil rfl) rfl)) SR_nil rfl) (by decide) rfl rfl rfl) rfl)
  (SSs_one (SSt_ret SE_bl))
  SSs_nil))) (fun _ => rfl))
  (SSs_cons (SSt_if (ST_cmp (op_neDD hr.units) (SE_call (ok__law_widths x) (hr.mono (by decide)) hg (takes_of rfl rfl rfl rfl) rfl (g__law_widths x) (D__law_widths x).kp (B__law_widths x) .nil RepDef.nil (SA_dat (SE_call (ok_told_by x) (hr.mono (by decide)) hg (takes_of rfl rfl rfl rfl) rfl (g_told_by x) (D_told_by x).kp (B_told_by x) .nil RepDef.nil (SA_dat (SE_var (i := 7) rfl (.inl rfl) rfl rfl) (SA_dat (SE_var (i := 2) rfl (.inl rfl) rfl rfl) SA_nil rfl) rfl) rfl rfl rfl) SA_nil rfl) rfl rfl rfl) (SE_callB (c_sorted rfl) rfl (n_sorted x) bt_sorted (SR_cons (SE_bin op_addD (SE_call (ok__law_widths x) (hr.mono (by decide)) hg (takes_of rfl rfl rfl rfl) rfl (g__law_widths x) (D__law_widths x).kp (B__law_widths x) .nil RepDef.nil (SA_dat (SE_call (ok_told_by x) (hr.mono (by decide)) hg (takes_of rfl rfl rfl rfl) rfl (g_told_by x) (D_told_by x).kp (B_told_by x) .nil RepDef.nil (SA_dat (SE_var (i := 4) rfl (.inl rfl) rfl rfl) (SA_dat (SE_var (i := 2) rfl (.inl rfl) rfl rfl) SA_nil rfl) rfl) rfl rfl rfl) SA_nil rfl) rfl rfl rfl) (SE_call (ok__law_widths x) (hr.mono (by decide)) hg (takes_of rfl rfl rfl rfl) rfl (g__law_widths x) (D__law_widths x).kp (B__law_widths x) .nil RepDef.nil (SA_dat (SE_call (ok_told_by x) (hr.mono (by decide)) hg (takes_of rfl rfl rfl rfl) rfl (g_told_by x) (D_told_by x).kp (B_told_by x) .nil RepDef.nil (SA_dat (SE_var (i := 5) rfl (.inl rfl) rfl rfl) (SA_dat (SE_var (i := 2) rfl (.inl rfl) rfl rfl) SA_nil rfl) rfl) rfl rfl rfl) SA_nil rfl) rfl rfl rfl)) SR_nil rfl) (by decide) rfl rfl rfl) rfl)
  (SSs_one (SSt_ret SE_bl))
  SSs_nil)
  (SSs_cons (SSt_set (i := 10) sc__law_right.nd rfl (.inr rfl) (SE_call (ok_multiplied x) (hr.mono (by decide)) hg (takes_of rfl rfl rfl rfl) rfl (g_multiplied x) (D_multiplied x).kp (B_multiplied x) .nil RepDef.nil (SA_dat (SE_var (i := 7) rfl (.inl rfl) rfl rfl) (SA_dat (SE_var (i := 6) rfl (.inl rfl) rfl rfl) SA_nil rfl) rfl) rfl rfl rfl) rfl (.inl rfl))
  (SSs_cons (SSt_set (i := 11) sc__law_right.nd rfl (.inr rfl) (SE_callTy c_tuple rfl (n_tuple x) bt_tuple (SR_cons (SE_lc (own := [("_law_each", 13)]) rfl sc__law_right.nd (SI_seq (SE_sortSetI rfl rfl (n_sorted x) bt_sorted rfl (n_set x) bt_set (SR_cons (SE_lst (SL_cons (SE_var (i := 2) rfl (.inl rfl) rfl rfl) (SL_cons (SE_var (i := 3) rfl (.inl rfl) rfl rfl) SL_nil rfl) rfl)) SR_nil rfl) (by decide) rfl (by decide) rfl rfl rfl rfl rfl)) (blkOk_by (own := [("_law_each", 13)]) (by kernel_rfl)) (fun _ _ _ _ _ => (SG_name (i := 13) (by decide) sc__law_right.nd rfl (.inl rfl) (.inr rfl))) (fun _ _ _ _ _ => STs_nil) (fun _ _ _ _ _ => (SE_call (ok_told_by x) (hr.mono (by decide)) hg takesF rfl (g_told_by x) (D_told_by x).kp (B_told_by x) .nil RepDef.nil (SA_dat (SE_var (i := 10) rfl (.inr (.inl rfl)) rfl rfl) (SA_dat (SE_var (i := 13) rfl (.inl rfl) rfl rfl) SA_nil rfl) rfl) rfl rfl rfl)) (fun _ => rfl)) SR_nil rfl) (by decide) rfl rfl rfl) rfl (.inl rfl))
  (SSs_cons (SSt_set (i := 12) sc__law_right.nd rfl (.inl rfl) (SE_lst (SL_cons (SE_bin op_subD (SE_callB c_len rfl (n_len x) bt_len (SR_cons (SE_var (i := 4) rfl (.inl rfl) rfl rfl) SR_nil rfl) (by decide) rfl rfl rfl) SE_int) (SL_cons (SE_bin op_subD (SE_callB c_len rfl (n_len x) bt_len (SR_cons (SE_var (i := 5) rfl (.inl rfl) rfl rfl) SR_nil rfl) (by decide) rfl rfl rfl) SE_int) (SL_cons (SE_bin op_subD (SE_callB c_len rfl (n_len x) bt_len (SR_cons (SE_var (i := 6) rfl (.inl rfl) rfl rfl) SR_nil rfl) (by decide) rfl rfl rfl) SE_int) (SL_cons (SE_bin op_subD (SE_callB c_len rfl (n_len x) bt_len (SR_cons (SE_var (i := 7) rfl (.inl rfl) rfl rfl) SR_nil rfl) (by decide) rfl rfl rfl) SE_int) SL_nil rfl) rfl) rfl) rfl)) rfl (.inl rfl))
  (SSs_one (SSt_if (SW.t (SW_or (ST_cmp (op_neDD hr.units) (SE_lc (own := [("_law_degree", 14)]) rfl sc__law_right.nd (SI_seq (SE_var (i := 12) rfl (.inl rfl) rfl rfl)) (blkOk_by (own := [("_law_degree", 14)]) (by kernel_rfl)) (fun _ _ _ _ _ => (SG_name (i := 14) (by decide) sc__law_right.nd rfl (.inl rfl) (.inr rfl))) (fun _ _ _ _ _ => (STs_one (ST_cmp (op_notinXT (room65 hr)) (SE_var (i := 14) rfl (.inl rfl) rfl rfl) (SE_call (ok_sums x) (hr.mono (by decide)) hg takesF rfl (g_sums x) (D_sums x).kp (B_sums x) .nil RepDef.nil (SA_dat (SE_var (i := 11) rfl (.inr (.inl rfl)) rfl rfl) SA_nil rfl) rfl rfl rfl) rfl))) (fun _ _ _ _ _ => (SE_var (i := 14) rfl (.inl rfl) rfl rfl)) (fun _ => rfl)) (SE_lst SL_nil) rfl) (SW_or1 (ST_truth (SE_call (ok_never_factors x) (hr.mono (by decide)) hg (takes_of rfl rfl rfl rfl) rfl (g_never_factors x) (D_never_factors x).kp (B_never_factors x) .nil RepDef.nil (SA_dat (SE_var (i := 11) rfl (.inr (.inl rfl)) rfl rfl) SA_nil rfl) rfl rfl rfl) (fun _ => rfl)))))
  (SSs_one (SSt_ret SE_bl))
  SSs_nil))))))))))) (fun _ => rfl))
  (SSs_one (SSt_ret SE_bl)))
noncomputable def fd__law_jug (x : Fx w K mg) : FuncData := Classical.choose (x.c.def_ 29 (d := d29) rfl)
theorem D__law_jug (x : Fx w K mg) : FunD K "_law_jug" "_law_jug" (defArgs (top 33)) (defBody (top 33)) (defScope (top 33)) [] [] (He.ga K "_law_jug") (fd__law_jug x) := Classical.choose_spec (x.c.def_ 29 (d := d29) rfl)
theorem B__law_jug (x : Fx w K mg) : Binds K (fd__law_jug x) ["_law_script", "_law_turn"] [] := (D__law_jug x).bindsN fun _ _ _ _ _ _ us hl => match us, hl with | [_, _], _ => rfl
theorem sc__law_jug : FnScope ["_law_script", "_law_turn", "_law_entry", "_law_stirred", "_law_each"] ["_law_script", "_law_turn"] (defScope (top 33)) := ⟨rfl, rfl, rfl, by decide +kernel, rfl, by decide +kernel, by decide +kernel⟩
noncomputable def b__law_jug : Rho → Rs Fl := (stSeq (stSet [] 2 (evIte (asT (ev2 ltD (evV 1) (evB (op1 lenD) (arCons (evV 0) arNil)))) (evB (op1 intD) (arCons (ev2 ixDD (evV 0) (evV 1)) arNil)) (ev2 addD (ev2 mulD (evC (.int 83)) (evV 1)) (evC (.int 17)))))
  (stSeq (stSet [] 3 (ev2 addD (evC (.int 20011)) (ev2 mulD (evC (.int 709)) (evV 1))))
  (stSeq (stFor (itSeq [] (evSl (evV 0) evNoP (evP (evC (.int 8))))) (tgName [] 4)
  (stSet [] 3 (ev2 modD (evB (op1 intD) (arCons (ev2 addD (ev2 addD (ev2 mulD (evV 3) (evC (.int 69621))) (ev2 modD (evB (op1 intD) (arCons (evV 4) arNil)) (evC (.int 999961)))) (evV 1)) arNil)) (evC (.int 2147483587)))))
  (stSeq (stSet [] 3 (ev2 modD (evB (op1 intD) (arCons (ev2 addD (ev2 mulD (evV 3) (evC (.int 69621))) (ev2 modD (evB (op1 intD) (arCons (evV 2) arNil)) (evC (.int 999961)))) arNil)) (evC (.int 2147483587))))
  (stRet (evLst (evCons [] (evIte (asT (ev2 geD (evB (op1 absD) (arCons (evV 2) arNil)) (ev2 powD (evC (.int 10)) (evC (.int 18))))) (evB (op1 absD) (arCons (evV 2) arNil)) (evC (.int 0))) (evCons [] (evV 3) (evCons [] (evC (.int 0)) evNil)))))))))
noncomputable def F__law_jug : Fn := fnOf [] 2 5 b__law_jug
theorem ok__law_jug (x : Fx w K mg) : FnG P w K mg base 1 (He.ga K "_law_jug") (fd__law_jug x) ["_law_script", "_law_turn"] (spF K F__law_jug) := FnG.ev (N := ["_law_script", "_law_turn", "_law_entry", "_law_stirred", "_law_each"]) (io := []) (D__law_jug x) sc__law_jug rfl rfl fun cd A outer s H E hr hg =>
  (SSs_cons (SSt_set (i := 2) sc__law_jug.nd rfl (.inl rfl) (SE_ite (ST_cmp (op_ltD hr.units0) (SE_var (i := 1) rfl (.inl rfl) rfl rfl) (SE_callB c_len rfl (n_len x) bt_len (SR_cons (SE_var (i := 0) rfl (.inl rfl) rfl rfl) SR_nil rfl) (by decide) rfl rfl rfl) rfl) (SE_callTy c_int rfl (n_int x) bt_int (SR_cons (SE_ix (ix_DD (hu_of hr)) (SE_var (i := 0) rfl (.inl rfl) rfl rfl) (SE_var (i := 1) rfl (.inl rfl) rfl rfl) (fun _ _ => rfl)) SR_nil rfl) (by decide) rfl rfl rfl) (SE_bin op_addD (SE_bin op_mulD SE_int (SE_var (i := 1) rfl (.inl rfl) rfl rfl)) SE_int)) rfl (.inl rfl))
  (SSs_cons (SSt_set (i := 3) sc__law_jug.nd rfl (.inl rfl) (SE_bin op_addD SE_int (SE_bin op_mulD SE_int (SE_var (i := 1) rfl (.inl rfl) rfl rfl))) rfl (.inl rfl))
  (SSs_cons (SSt_for (L := [4]) (passes_of rfl) rfl (SI_seq (SE_sl (SE_var (i := 0) rfl (.inl rfl) rfl rfl) SP_none (SP_some SE_int))) (SG_name (i := 4) (by decide) sc__law_jug.nd rfl (.inl rfl) (.inl rfl))
  (SSs_one (SSt_set (i := 3) sc__law_jug.nd rfl (.inl rfl) (SE_bin op_modD (SE_callTy c_int rfl (n_int x) bt_int (SR_cons (SE_bin op_addD (SE_bin op_addD (SE_bin op_mulD (SE_var (i := 3) rfl (.inl rfl) rfl rfl) SE_int) (SE_bin op_modD (SE_callTy c_int rfl (n_int x) bt_int (SR_cons (SE_var (i := 4) rfl (.inl rfl) rfl rfl) SR_nil rfl) (by decide) rfl rfl rfl) SE_int)) (SE_var (i := 1) rfl (.inl rfl) rfl rfl)) SR_nil rfl) (by decide) rfl rfl rfl) SE_int) rfl (.inl rfl))) (fun _ => rfl))
  (SSs_cons (SSt_set (i := 3) sc__law_jug.nd rfl (.inl rfl) (SE_bin op_modD (SE_callTy c_int rfl (n_int x) bt_int (SR_cons (SE_bin op_addD (SE_bin op_mulD (SE_var (i := 3) rfl (.inl rfl) rfl rfl) SE_int) (SE_bin op_modD (SE_callTy c_int rfl (n_int x) bt_int (SR_cons (SE_var (i := 2) rfl (.inl rfl) rfl rfl) SR_nil rfl) (by decide) rfl rfl rfl) SE_int)) SR_nil rfl) (by decide) rfl rfl rfl) SE_int) rfl (.inl rfl))
  (SSs_one (SSt_ret (SE_lst (SL_cons (SE_ite (ST_cmp op_geD (SE_callB c_abs rfl (n_abs x) bt_abs (SR_cons (SE_var (i := 2) rfl (.inl rfl) rfl rfl) SR_nil rfl) (by decide) rfl rfl rfl) (SE_bin op_powD SE_int SE_int) rfl) (SE_callB c_abs rfl (n_abs x) bt_abs (SR_cons (SE_var (i := 2) rfl (.inl rfl) rfl rfl) SR_nil rfl) (by decide) rfl rfl rfl) SE_int) (SL_cons (SE_var (i := 3) rfl (.inl rfl) rfl rfl) (SL_cons SE_int SL_nil rfl) rfl) rfl))))))))
noncomputable def fd_law (x : Fx w K mg) : FuncData := Classical.choose (x.c.def_ 30 (d := d30) rfl)
theorem D_law (x : Fx w K mg) : FunD K "law" "law" (defArgs (top 44)) (defBody (top 44)) (defScope (top 44)) [] [] (He.ga K "law") (fd_law x) := Classical.choose_spec (x.c.def_ 30 (d := d30) rfl)
theorem B_law (x : Fx w K mg) : Binds K (fd_law x) ["_law_script"] [] := (D_law x).bindsN fun _ _ _ _ _ _ us hl => match us, hl with | [_], _ => rfl
theorem sc_law : FnScope ["_law_script", "_law_turn"] ["_law_script"] (defScope (top 44)) := ⟨rfl, rfl, rfl, by decide +kernel, rfl, by decide +kernel, by decide +kernel⟩
noncomputable def b_law : Rho → Rs Fl := (stSeq (stIf (asT (ev2 neD (evLst (evCons [] (evCall F_told_by [] (aDat [] (evTup (evCons [] (evC (.int 2)) (evCons [] (evC (.int 0)) (evCons [] (evC (.int 4)) (evCons [] (evC (.int 1)) evNil))))) (aDat [] (evC (.int 2)) aNil))) (evCons [] (evCall F_told_by [] (aDat [] (evTup (evCons [] (evC (.int 12)) (evCons [] (evC (.int 0)) (evCons [] (evC (.int 4)) (evCons [] (evC (.int 8)) evNil))))) (aDat [] (evC (.int 2)) aNil))) (evCons [] (evCall F_multiplied [] (aDat [] (evTup (evCons [] (evC (.int 2)) (evCons [] (evC (.int 1)) evNil))) (aDat [] (evTup (evCons [] (evC (.int 2)) (evCons [] (evC (.int 0)) (evCons [] (evC (.int 1)) evNil)))) aNil))) evNil)))) (evLst (evCons [] (evTup (evCons [] (evTup (evCons [] (evC (.int 0)) (evCons [] (evC (.int 1)) evNil))) (evCons [] (evTup (evCons [] (evC (.int 3)) (evCons [] (evC (.int 0)) evNil))) evNil))) (evCons [] (evTup (evCons [] (evTup (evCons [] (evC (.int 0)) (evCons [] (evC (.int 0)) evNil))) (evCons [] (evTup (evCons [] (evC (.int 2)) (evCons [] (evC (.int 0)) evNil))) (evCons [] (evTup (evCons [] (evC (.int 3)) (evCons [] (evC (.int 1)) evNil))) evNil)))) (evCons [] (evTup (evCons [] (evC (.int 4)) (evCons [] (evC (.int 2)) (evCons [] (evC (.int 2)) (evCons [] (evC (.int 1)) evNil))))) evNil))))))
  (stRet (evC (.bl false)))
  stNx)
  (stSeq (stIf (teOr (asT (ev2 neD (evCall F_told_by [] (aDat [] (evTup (evCons [] (evC (.int 6)) (evCons [] (evC (.int 1)) evNil))) (aDat [] (evC (.int 3)) aNil))) (evTup (evCons [] (evTup (evCons [] (evC (.int 0)) (evCons [] (evC (.int 1)) evNil))) (evCons [] (evTup (evCons [] (evC (.int 1)) (evCons [] (evC (.int 0)) evNil))) evNil))))) (asT (ev2 neD (evCall F_multiplied [] (aDat [] (evTup (evCons [] (evC (.int 3)) evNil)) (aDat [] (evTup (evCons [] (ev2 subD (evC (.int 0)) (evC (.int 2))) evNil)) aNil))) (evTup (evCons [] (ev1 negD (evC (.int 6))) evNil)))))
  (stRet (evC (.bl false)))
  stNx)
  (stRet (evB (op1 allD) (arCons (evLc [] [1] (itR1 (evB (op2 max2D) (arCons (evC (.int 2)) (arCons (evB (op2 min2D) (arCons (evB (op1 lenD) (arCons (evV 0) arNil)) (arCons (evC (.int 5)) arNil))) arNil)))) (tgName [] 1) (.ok true) (evCallT F__law_right (evCall F__law_jug [] (aDat [] (evV 0) (aDat [] (evV 1) aNil))) aNil)) arNil)))))
noncomputable def F_law : Fn := fnOf [] 1 2 b_law
theorem ok_law (x : Fx w K mg) : FnG P w K mg base 9 (He.ga K "law") (fd_law x) ["_law_script"] (spF K F_law) := FnG.ev (N := ["_law_script", "_law_turn"]) (io := []) (D_law x) sc_law rfl rfl fun cd A outer s H E hr hg =>
  (SSs_cons (SSt_if (ST_cmp (op_neDD hr.units) (SE_lst (SL_cons (SE_call (ok_told_by x) (hr.mono (by decide)) hg (takes_of rfl rfl rfl rfl) rfl (g_told_by x) (D_told_by x).kp (B_told_by x) .nil RepDef.nil (SA_dat (SE_tup (SL_cons SE_int (SL_cons SE_int (SL_cons SE_int (SL_cons SE_int SL_nil rfl) rfl) rfl) rfl)) (SA_dat SE_int SA_nil rfl) rfl) rfl rfl rfl) (SL_cons (SE_call (ok_told_by x) (hr.mono (by decide)) hg (takes_of rfl rfl rfl rfl) rfl (g_told_by x) (D_told_by x).kp (B_told_by x) .nil RepDef.nil (SA_dat (SE_tup (SL_cons SE_int (SL_cons SE_int (SL_cons SE_int (SL_cons SE_int SL_nil rfl) rfl) rfl) rfl)) (SA_dat SE_int SA_nil rfl) rfl) rfl rfl rfl) (SL_cons (SE_call (ok_multiplied x) (hr.mono (by decide)) hg (takes_of rfl rfl rfl rfl) rfl (g_multiplied x) (D_multiplied x).kp (B_multiplied x) .nil RepDef.nil (SA_dat (SE_tup (SL_cons SE_int (SL_cons SE_int SL_nil rfl) rfl)) (SA_dat (SE_tup (SL_cons SE_int (SL_cons SE_int (SL_cons SE_int SL_nil rfl) rfl) rfl)) SA_nil rfl) rfl) rfl rfl rfl) SL_nil rfl) rfl) rfl)) (SE_lst (SL_cons (SE_tup (SL_cons (SE_tup (SL_cons SE_int (SL_cons SE_int SL_nil rfl) rfl)) (SL_cons (SE_tup (SL_cons SE_int (SL_cons SE_int SL_nil rfl) rfl)) SL_nil rfl) rfl)) (SL_cons (SE_tup (SL_cons (SE_tup (SL_cons SE_int (SL_cons SE_int SL_nil rfl) rfl)) (SL_cons (SE_tup (SL_cons SE_int (SL_cons SE_int SL_nil rfl) rfl)) (SL_cons (SE_tup (SL_cons SE_int (SL_cons SE_int SL_nil rfl) rfl)) SL_nil rfl) rfl) rfl)) (SL_cons (SE_tup (SL_cons SE_int (SL_cons SE_int (SL_cons SE_int (SL_cons SE_int SL_nil rfl) rfl) rfl) rfl)) SL_nil rfl) rfl) rfl)) rfl)
  (SSs_one (SSt_ret SE_bl))
  SSs_nil)
  (SSs_cons (SSt_if (SW.t (SW_or (ST_cmp (op_neDD hr.units) (SE_call (ok_told_by x) (hr.mono (by decide)) hg (takes_of rfl rfl rfl rfl) rfl (g_told_by x) (D_told_by x).kp (B_told_by x) .nil RepDef.nil (SA_dat (SE_tup (SL_cons SE_int (SL_cons SE_int SL_nil rfl) rfl)) (SA_dat SE_int SA_nil rfl) rfl) rfl rfl rfl) (SE_tup (SL_cons (SE_tup (SL_cons SE_int (SL_cons SE_int SL_nil rfl) rfl)) (SL_cons (SE_tup (SL_cons SE_int (SL_cons SE_int SL_nil rfl) rfl)) SL_nil rfl) rfl)) rfl) (SW_or1 (ST_cmp (op_neDD hr.units) (SE_call (ok_multiplied x) (hr.mono (by decide)) hg (takes_of rfl rfl rfl rfl) rfl (g_multiplied x) (D_multiplied x).kp (B_multiplied x) .nil RepDef.nil (SA_dat (SE_tup (SL_cons SE_int SL_nil rfl)) (SA_dat (SE_tup (SL_cons (SE_bin op_subD SE_int SE_int) SL_nil rfl)) SA_nil rfl) rfl) rfl rfl rfl) (SE_tup (SL_cons (SE_un un_negD SE_int) SL_nil rfl)) rfl))))
  (SSs_one (SSt_ret SE_bl))
  SSs_nil)
  (SSs_one (SSt_ret (SE_callB (c_all rfl) rfl (n_all x) bt_all (SR_cons (SE_lc (own := [("_law_turn", 1)]) rfl sc_law.nd (SI_range1 rfl (n_range x) (SE_callB (c_max2 rfl) rfl (n_max x) bt_max (SR_cons SE_int (SR_cons (SE_callB (c_min2 rfl) rfl (n_min x) bt_min (SR_cons (SE_callB c_len rfl (n_len x) bt_len (SR_cons (SE_var (i := 0) rfl (.inr (.inl rfl)) rfl rfl) SR_nil rfl) (by decide) rfl rfl rfl) (SR_cons SE_int SR_nil rfl) rfl) (by decide) rfl rfl rfl) SR_nil rfl) rfl) (by decide) rfl rfl rfl) rfl) (blkOk_by (own := [("_law_turn", 1)]) (by kernel_rfl)) (fun _ _ _ _ _ => (SG_name (i := 1) (by decide) sc_law.nd rfl (.inl rfl) (.inr rfl))) (fun _ _ _ _ _ => STs_nil) (fun _ _ _ _ _ => (SE_callT (ok__law_right x) (hr.mono (by decide)) hg takesF rfl (g__law_right x) (D__law_right x).kp (B__law_right x) (SE_call (ok__law_jug x) (hr.mono (by decide)) hg takesF rfl (g__law_jug x) (D__law_jug x).kp (B__law_jug x) .nil RepDef.nil (SA_dat (SE_var (i := 0) rfl (.inr (.inl rfl)) rfl rfl) (SA_dat (SE_var (i := 1) rfl (.inl rfl) rfl rfl) SA_nil rfl) rfl) rfl rfl rfl) SA_nil rfl rfl rfl)) (fun _ => rfl)) SR_nil rfl) (by decide) rfl rfl rfl)))))
end
end Hd

namespace Hd
open PySem PySem.Spec Spl
theorem p_is_integer (i : Int) : Fun F_is_integer [.int i] (.bl true) := ⟨_, rfl, rfl⟩
theorem p_is_between (i l h : Int) : Fun F_is_between [.int i, .int l, .int h] (.bl (decide (l ≤ i) && decide (i ≤ h))) := by
  refine Fun.of rfl ?_
  simp [b_is_between, (p_is_integer _).a1, List.replicate]
  by_cases c : l ≤ i <;> simp [c]
theorem p_is_pair (p : Int × Int) (l h : Int) : Fun F_is_pair [pr p, .int l, .int h] (.bl ((decide (l ≤ p.1) && decide (p.1 ≤ h)) && (decide (l ≤ p.2) && decide (p.2 ≤ h)))) := by
  refine Fun.of rfl ?_
  simp [b_is_pair, (p_is_between _ _ _).a3, List.replicate]
  by_cases c : l ≤ p.1 ∧ p.1 ≤ h <;> simp [c]
abbrev PI := Int × Int
def lad (L : List PI) : D := .tup (L.map pr)
def stp (L : List PI) : List PI := (prs L).map fun s => (s.2.1 - s.1.1, s.2.2 - s.1.2)
structure Val (L : List PI) (deg : Int) : Prop where
  two : 2 ≤ L.length
  sz : L.length ≤ 1000
  rng : ∀ p ∈ L, 0 ≤ p.1 ∧ p.1 ≤ 500 ∧ 0 ≤ p.2 ∧ p.2 ≤ 60
  fst : ∃ h, L.head? = some (0, h)
  lst : ∃ h, L.getLast? = some (deg, h)
  inc : ∀ s ∈ stp L, 1 ≤ s.1
  cvx : ∀ q ∈ prs (stp L), q.1.2 * q.2.1 < q.2.2 * q.1.1
theorem size1000 {n : Nat} (h : n ≤ 1000) : n ≤ sizeLine := Nat.le_trans h (by decide)
theorem stp_len {L : List PI} : (stp L).length = L.length - 1 := by
  unfold stp prs
  rw [List.length_map, List.length_zip, List.length_tail]
  omega
theorem mem_prs {α : Type} {xs : List α} {p : α × α} (h : p ∈ prs xs) : p.1 ∈ xs ∧ p.2 ∈ xs := by
  unfold prs at h
  obtain ⟨a, b⟩ := List.of_mem_zip h
  exact ⟨a, List.mem_of_mem_tail b⟩
theorem Val.small {L : List PI} {deg : Int} (v : Val L deg) {s : PI} (h : s ∈ stp L) : s.1.natAbs ≤ 500 ∧ s.2.natAbs ≤ 500 := by
  obtain ⟨p, hp, rfl⟩ := List.mem_map.mp h
  obtain ⟨h1, h2⟩ := mem_prs hp
  have a := v.rng _ h1
  have b := v.rng _ h2
  simp only
  omega
theorem p_is_ladder {L : List PI} {deg : Int} (v : Val L deg) : Fun F_is_ladder [lad L] (.bl true) := by
  refine Fun.of rfl ?_
  have hsz := size1000 v.sz
  have htwo : ¬ ((L.length : Int) < 2) := by have := v.two; omega
  obtain ⟨h0, hfst⟩ := v.fst
  have i0 : ixDD (.tup (L.map pr)) (.int 0) = some (.val (pr (0, h0))) := ix_tup0 (by
    rw [List.getElem?_map, ← List.head?_eq_getElem?, hfst]; rfl)
  have hne : L ≠ [] := by intro e; rw [e] at hfst; cases hfst
  have sl : (prs L).length ≤ sizeLine := by
    unfold prs
    rw [List.length_zip]
    exact Nat.le_trans (Nat.min_le_left _ _) hsz
  have ssl : (stp L).length ≤ sizeLine := by rw [stp, List.length_map]; exact sl
  have ssl2 : (prs (stp L)).length ≤ sizeLine := by
    rw [prs, List.length_zip]
    exact Nat.le_trans (Nat.min_le_left _ _) ssl
  have sne : stp L ≠ [] := by
    intro e
    have h := stp_len (L := L)
    rw [e] at h
    have := v.two
    rw [List.length_nil] at h
    omega
  have z1 : zipD (L.map pr) (L.map pr).tail = (prs L).map fun p => .tup [pr p.1, pr p.2] := by
    rw [← List.map_tail, zipD_map]; rfl
  have z2 : zipD ((stp L).map pr) ((stp L).map pr).tail = (prs (stp L)).map fun p => .tup [pr p.1, pr p.2] := by
    rw [← List.map_tail, zipD_map]; rfl
  have es : (prs L).map (fun p => pr (p.2.1 - p.1.1, p.2.2 - p.1.2)) = (stp L).map pr := by
    rw [stp, List.map_map]; rfl
  obtain ⟨mx, hmx, hmx2, _⟩ := maxD_le (b := 60) (f := fun p : PI => p.2) hne fun p hp => (v.rng p hp).2.2.2
  obtain ⟨mn, hmn, hmn2⟩ := minD_ge (b := 1) (f := fun p : PI => p.1) sne v.inc
  have c1 : ¬ (60 < mx) := by omega
  have c2 : ¬ (mn < 1) := by omega
  simp [b_is_ladder, List.replicate, lad, htwo]
  refine Ok_lcMap L pr (fun _ => .bl true) ?_
  simp [hsz, wipeR, restR, (p_is_pair _ _ _).a3, vsOk, isDat, all_bl]
  refine ⟨fun a b hab => ?_, ?_⟩
  · have := v.rng _ hab
    exact ⟨⟨this.1, this.2.1⟩, this.2.2.1, by omega⟩
  simp [i0]
  refine Ok_lcMap L pr (fun p => .int p.2) ?_
  simp [hsz, wipeR, restR, vsOk, isDat, hmx, c1]
  refine Ok_lcMap (prs L) (fun p => .tup [pr p.1, pr p.2]) (fun p => pr (p.2.1 - p.1.1, p.2.2 - p.1.2)) ?_
  simp [z1, es, sl, wipeR, restR, to_pr, vsOk, isDat]
  refine Ok_lcMap (stp L) pr (fun p => .int p.1) ?_
  simp [ssl, wipeR, restR, vsOk, isDat, hmn, c2]
  refine Ok_lcMap (prs (stp L)) (fun p => .tup [pr p.1, pr p.2]) (fun _ => .bl true) ?_
  simp [z2, ssl2, wipeR, restR, vsOk, isDat, all_bl]
  intro a b c d hm
  obtain ⟨m1, m2⟩ := mem_prs hm
  have s1 := v.small m1
  have s2 := v.small m2
  simp only at s1 s2
  have k := v.cvx _ hm
  simp only at k
  simp [mulOk_l (i := b) (j := c) (by omega), mulOk_l (i := d) (j := a) (by omega), k]
theorem lads_nm {Ls : List (List PI)} : ∀ x ∈ Ls.map lad, Nm 2 x := by
  intro x hx
  obtain ⟨L, _, rfl⟩ := List.mem_map.mp hx
  refine .tup fun y hy => ?_
  obtain ⟨p, _, rfl⟩ := List.mem_map.mp hy
  exact .tup (xs := [.int p.1, .int p.2]) fun z hz => by
    rcases List.mem_cons.mp hz with rfl | hz
    · exact .int
    · rcases List.mem_cons.mp hz with rfl | hz
      · exact .int
      · cases hz
@[simp] theorem isi_lad {L : List PI} : isiD "tuple" (lad L) = some (.val (.bl true)) := rfl
theorem Val.lastIx {L : List PI} {deg : Int} (v : Val L deg) : ∃ h, ixDD (lad L) (.int (-1)) = some (.val (pr (deg, h))) := by
  obtain ⟨h, e⟩ := v.lst
  exact ⟨h, ix_tupL1 (by rw [List.getLast?_map, e]; rfl)⟩
structure Vals (Ls : List (List PI)) (deg : Int) : Prop where
  ne : Ls ≠ []
  sz : Ls.length ≤ 4
  all : ∀ L ∈ Ls, Val L deg
theorem Vals.ix0 {Ls : List (List PI)} {deg : Int} (v : Vals Ls deg) : ∃ L, L ∈ Ls ∧ Ls.head? = some L ∧ ixDD (.tup (Ls.map lad)) (.int 0) = some (.val (lad L)) := by
  cases Ls with
  | nil => exact absurd rfl v.ne
  | cons L Ls => exact ⟨L, List.mem_cons_self .., rfl, ix_tup0 rfl⟩
theorem p_check {Ls : List (List PI)} {deg : Int} (v : Vals Ls deg) : Fun F_check_ladders [.tup (Ls.map lad)] .non := by
  refine Fun.ofN rfl ?_
  obtain ⟨L0, hL0, _, i0⟩ := v.ix0
  obtain ⟨h0, i1⟩ := (v.all L0 hL0).lastIx
  have e0 : eqD (.tup (Ls.map lad)) (.tup []) = some (.val (.bl false)) := eqD_num (n := 3) (m := 1) (.tup lads_nm) (.tup fun x hx => absurd hx (List.not_mem_nil)) (by decide) (by decide) (by
    refine ⟨fun h => (nomatch h), fun h => ?_⟩
    cases Ls with
    | nil => exact absurd rfl v.ne
    | cons L Ls => cases h)
  simp [b_check_ladders, List.replicate, e0]
  refine Ok_forL (fun k ρ => ∃ x y, ρ = [some (.dat (.tup (Ls.map lad))), x, y]) _ 0 _ ⟨_, _, rfl⟩ ?_ fun ρ _ => rfl
  rintro i d ρ hd ⟨x, y, rfl⟩
  rw [enumFrom_at, List.getElem?_map] at hd
  cases hL : Ls[i]? with
  | none => rw [hL] at hd; cases hd
  | some L =>
    rw [hL] at hd
    cases hd
    have hm := List.mem_of_getElem? hL
    obtain ⟨h, i2⟩ := (v.all L hm).lastIx
    have hi : i < Ls.length := by
      rw [List.getElem?_eq_some_iff] at hL
      exact hL.1
    have h4 : ¬ ((i : Int) = 4) := by have := v.sz; omega
    simp [h4, (p_is_ladder (v.all L hm)).a1, i0, i1, i2]
theorem abs_if (a : Int) : (if a < 0 then -a else a) = (a.natAbs : Int) := by
  split <;> omega
theorem abs_two {a b : Int} : ([some (W.dat (.int (if a < 0 then -a else a))), some (W.dat (.int (if b < 0 then -b else b)))] : Rho) = [some (.dat (.int (a.natAbs : Int))), some (.dat (.int (b.natAbs : Int)))] := by rw [abs_if, abs_if]
theorem p_common (a b : Int) : Fun F_common [.int a, .int b] (.int (Int.gcd a b)) := by
  refine Fun.of rfl ?_
  simp [b_common, List.replicate]
  refine Ok_while (fun n ρ => ∃ x y : Nat, ρ = [some (.dat (.int x)), some (.dat (.int y))] ∧ y = n ∧ Nat.gcd x y = Int.gcd a b) ?_ b.natAbs _ ⟨a.natAbs, b.natAbs, abs_two, rfl, rfl⟩
  rintro n ρ ⟨x, y, rfl, rfl, hg⟩
  by_cases hy : 0 < y
  · simp [hy]
    exact ⟨x % y, Nat.mod_lt _ hy, y, x % y, ⟨rfl, by rw [Int.natCast_emod]⟩, rfl, by rw [← hg, Nat.gcd_comm x y, Nat.gcd_rec y x, Nat.gcd_comm]⟩
  · have : y = 0 := by omega
    subst this
    simp at hg ⊢
    rw [hg]
def rg (s : PI) : PI := (s.1 / (Int.gcd s.1 s.2 : Int), (Int.gcd s.1 s.2 : Int))
def rgs (L : List PI) : List PI := (stp L).map rg
theorem rg_ok {s : PI} (h : 1 ≤ s.1) (h2 : s.1.natAbs ≤ 500) : 0 < (Int.gcd s.1 s.2 : Int) ∧ (Int.gcd s.1 s.2 : Int) ≤ 500 ∧ (Int.gcd s.1 s.2).log2 < 9000 := by
  have hp : 0 < Int.gcd s.1 s.2 := Int.gcd_pos_of_ne_zero_left _ (by omega)
  have hd : Int.gcd s.1 s.2 ≤ s.1.natAbs := Nat.le_of_dvd (by omega) (Nat.gcd_dvd_left _ _)
  refine ⟨by omega, by omega, ?_⟩
  rw [Nat.log2_lt (by omega)]
  exact Nat.lt_of_le_of_lt (Nat.le_trans hd h2) (Nat.lt_of_lt_of_le (by decide : 500 < 2 ^ 9) (Nat.pow_le_pow_right (by decide) (by decide)))
theorem take_get {α : Type} {xs : List α} {i : Nat} {x : α} (h : xs[i]? = some x) : xs.take (i + 1) = xs.take i ++ [x] := by
  rw [List.take_add_one, h]; rfl
theorem Val.rgl {L : List PI} {deg : Int} (v : Val L deg) (k : Nat) : ((rgs L).take k).length < sizeLine := by
  rw [List.length_take, rgs, List.length_map, stp_len]
  have := v.sz
  exact Nat.lt_of_le_of_lt (Nat.le_trans (Nat.min_le_right _ _) (Nat.le_trans (Nat.sub_le _ _) this)) (by decide)
theorem p_rungs_of {L : List PI} {deg : Int} (v : Val L deg) : Fun F_rungs_of [lad L] (.tup ((rgs L).map pr)) := by
  refine Fun.of rfl ?_
  have z1 : zipD (L.map pr) (L.map pr).tail = (prs L).map fun p => .tup [pr p.1, pr p.2] := by
    rw [← List.map_tail, zipD_map]; rfl
  simp [b_rungs_of, List.replicate, z1, lad]
  refine Ok_forL (fun k ρ => ∃ x y z, ρ = [some (.dat (.tup (L.map pr))), some (.lst (((rgs L).take k).map pr)), x, y, z]) _ 0 _ ⟨_, _, _, rfl⟩ ?_ ?_
  · rintro i d ρ hd ⟨x, y, z, rfl⟩
    rw [List.getElem?_map] at hd
    obtain ⟨p, hp, rfl⟩ := Option.map_eq_some_iff.mp hd
    have hs : (stp L)[i]? = some (p.2.1 - p.1.1, p.2.2 - p.1.2) := by rw [stp, List.getElem?_map, hp]; rfl
    have hr : (rgs L)[i]? = some (rg (p.2.1 - p.1.1, p.2.2 - p.1.2)) := by rw [rgs, List.getElem?_map, hs]; rfl
    have hm := List.mem_of_getElem? hs
    obtain ⟨g1, g2, g3⟩ := rg_ok (v.inc _ hm) (v.small hm).1
    have hl := v.rgl i
    rw [List.length_take] at hl
    simp only at g1 g2 g3
    have g1' : 0 < Int.gcd (p.2.1 - p.1.1) (p.2.2 - p.1.2) := by omega
    simp [(p_common _ _).a2, g1', g3, to_pr, hl, take_get hr, rg]
  · rintro ρ ⟨x, y, z, rfl⟩
    have e : (rgs L).take (0 + ((prs L).map fun p => D.tup [pr p.1, pr p.2]).length) = rgs L := by
      refine List.take_of_length_le ?_
      rw [rgs, stp, List.length_map, List.length_map, List.length_map]
      omega
    simp only [e]
    simp
theorem p_rungs {Ls : List (List PI)} {deg : Int} (v : Vals Ls deg) : Fun F_rungs [.tup (Ls.map lad)] (.tup (Ls.map fun L => .tup ((rgs L).map pr))) := by
  refine Fun.of rfl ?_
  simp [b_rungs, List.replicate, (p_check v).a1]
  refine Ok_lcMap Ls lad (fun L => .tup ((rgs L).map pr)) ?_
  have hl := Nat.le_trans v.sz (by decide : 4 ≤ sizeLine)
  simp [hl, vsOk, isDat, wipeR, restR]
  intro L hL
  simp [(p_rungs_of (v.all L hL)).a1]
def crs (a b c : PI) : Int := (b.1 - a.1) * (c.2 - a.2) - (b.2 - a.2) * (c.1 - a.1)
def sm (p : PI) : Prop := 0 ≤ p.1 ∧ p.1 ≤ 500 ∧ 0 ≤ p.2 ∧ p.2 ≤ 60
theorem p_cross {a b c : PI} (ha : sm a) (hb : sm b) (hc : sm c) : Fun F__law_cross [pr a, pr b, pr c] (.int (crs a b c)) := by
  refine Fun.of rfl ?_
  obtain ⟨a1, a2, a3, a4⟩ := ha
  obtain ⟨b1, b2, b3, b4⟩ := hb
  have m1 : mulOk (b.1 - a.1) (c.2 - a.2) = true := mulOk_l (by omega)
  have m2 : mulOk (b.2 - a.2) (c.1 - a.1) = true := mulOk_l (by omega)
  simp [b__law_cross, List.replicate, m1, m2, crs]
/-- a jug -/
def Jug (w : W) : Prop := ∃ a b c : Int, w = .lst [.int a, .int b, .int c]
theorem p_pour {w : W} (h : Jug w) {top : Int} (ht : 0 < top) (hb : top.natAbs.log2 < 9000) : Ret F__law_pour [w, .dat (.int top)] fun r io => ∃ d w', r = .dat (.int d) ∧ 0 ≤ d ∧ d < top ∧ Jug w' ∧ io = [w', .dat (.int top)] := by
  obtain ⟨a, b, c, rfl⟩ := h
  refine Ret.of rfl rfl ?_
  by_cases ha : 0 < a
  · simp [b__law_pour, List.replicate, ha, ht, hb]
    exact ⟨Int.emod_nonneg _ (by omega), Int.emod_lt_of_pos _ ht, _, ⟨_, _, _, rfl⟩, rfl⟩
  · have m1 : mulOk b 69621 = true := mulOk_r (by decide)
    have m2 : ∀ k, mulOk 3001 k = true := fun k => mulOk_l (by decide)
    have l2 : Nat.log2 256 < 9000 := by decide
    simp [b__law_pour, List.replicate, ha, ht, m1, m2, l2]
    exact ⟨Int.emod_nonneg _ (by omega), Int.emod_lt_of_pos _ ht, _, ⟨_, _, _, rfl⟩, rfl⟩

theorem p_pick {w : W} (h : Jug w) {xs : List Int} (h0 : 0 < xs.length) (h1 : xs.length ≤ 1000) : Ret F__law_pick [w, .dat (.lst (xs.map D.int))] fun r io => ∃ i ∈ xs, r = .dat (.int i) ∧ ∃ w', Jug w' ∧ io = [w', .dat (.lst (xs.map D.int))] := by
  obtain ⟨a, b, c, rfl⟩ := h
  refine Ret.of rfl rfl ?_
  simp [b__law_pick, List.replicate]
  have hl : Nat.log2 xs.length < 9000 := by
    rw [Nat.log2_lt (by omega)]
    exact Nat.lt_of_le_of_lt h1 (Nat.lt_of_lt_of_le (by decide : 1000 < 2 ^ 10) (Nat.pow_le_pow_right (by decide) (by decide)))
  refine (p_pour ⟨a, b, c, rfl⟩ (top := (xs.length : Int)) (by omega) (by simpa using hl)).ok (by simp) ?_
  rintro _ _ _ ⟨d, w', rfl, hd0, hd1, hj, rfl⟩
  obtain ⟨k, rfl⟩ : ∃ k : Nat, d = k := ⟨d.toNat, by omega⟩
  have hk : k < xs.length := by omega
  have e : ixDD (.lst (xs.map D.int)) (.int (k : Int)) = some (.val (.int xs[k])) := ix_lst (by rw [List.getElem?_map, List.getElem?_eq_getElem hk]; rfl)
  simp [e]
  exact ⟨_, List.getElem_mem hk, rfl, _, hj, rfl⟩
theorem p_jug {ns : List Int} {t : Nat} : Ret F__law_jug [.dat (.scr ns), .dat (.int t)] fun r _ => Jug r := by
  refine Ret.of rfl rfl ?_
  have m1 : ∀ k, mulOk k 69621 = true := fun k => mulOk_r (by decide)
  have m2 : ∀ k, mulOk 83 k = true := fun k => mulOk_l (by decide)
  have m3 : ∀ k, mulOk 709 k = true := fun k => mulOk_l (by decide)
  have pw : powD (.int 10) (.int 18) = some (.val (.int (10 ^ 18))) := rfl
  have s8 : slD none (some 8) (.scr ns) = some (.tmp (.lst ((ns.map D.int).take 8))) := slD_take_scr (k := 8)
  have low : ((t : Int) < (ns.length : Int)) = (t < ns.length) := by simp
  have step : ∀ (P : Fl → Rho → Prop) (ρ0 : Rho) (h : Rho → Rs Fl) (xs : List Int), (∃ E s x, ρ0 = [some (.dat (.scr ns)), some (.dat (.int t)), some (.dat (.int E)), some (.dat (.int s)), x]) →
      (∀ E s x, P .nx [some (.dat (.scr ns)), some (.dat (.int t)), some (.dat (.int E)), some (.dat (.int s)), x]) →
      Ok (forL (tgName [] 4) (stSet [] 3 (ev2 modD (evB (op1 intD) (arCons (ev2 addD (ev2 addD (ev2 mulD (evV 3) (evC (.int 69621))) (ev2 modD (evB (op1 intD) (arCons (evV 4) arNil)) (evC (.int 999961)))) (evV 1)) arNil)) (evC (.int 2147483587)))) (xs.map D.int) ρ0) P := by
    rintro P ρ0 h xs h0 h1
    refine Ok_forL (fun k ρ => ∃ E s x, ρ = [some (.dat (.scr ns)), some (.dat (.int t)), some (.dat (.int E)), some (.dat (.int s)), x]) _ 0 _ h0 ?_ ?_
    · rintro i d ρ hd ⟨E, s, x, rfl⟩
      obtain ⟨n, _, rfl⟩ := List.mem_map.mp (List.mem_of_getElem? hd)
      simp [m1]
    · rintro ρ ⟨E, s, x, rfl⟩
      exact h1 E s x
  by_cases ht : t < ns.length
  · have e : ixDD (.scr ns) (.int (t : Int)) = some (.val (.int ns[t])) := by
      show (L2.atI ns (t : Int)).map _ = _
      unfold L2.atI
      rw [ixN_nat ht]
      show (ns[t]?).map _ = _
      rw [List.getElem?_eq_getElem ht]; rfl
    simp [b__law_jug, List.replicate, e, s8, ht, m3]
    rw [← List.map_take]
    refine step _ _ stNx _ ⟨_, _, _, rfl⟩ ?_
    intro E s x
    simp [m1, pw]
    by_cases hb : (1000000000000000000 : Int) ≤ if E < 0 then -E else E
    · rw [if_pos hb]
      simp
      exact ⟨_, _, _, rfl⟩
    · rw [if_neg hb]
      simp
      exact ⟨_, _, _, rfl⟩
  · simp [b__law_jug, List.replicate, s8, ht, m2, m3]
    rw [← List.map_take]
    refine step _ _ stNx _ ⟨_, _, _, rfl⟩ ?_
    intro E s x
    simp [m1, pw]
    by_cases hb : (1000000000000000000 : Int) ≤ if E < 0 then -E else E
    · rw [if_pos hb]
      simp
      exact ⟨_, _, _, rfl⟩
    · rw [if_neg hb]
      simp
      exact ⟨_, _, _, rfl⟩

def Cv : List PI → Prop
  | c :: b :: a :: r => 0 < crs a b c ∧ b.1 < c.1 ∧ Cv (b :: a :: r)
  | [c, b] => b.1 < c.1
  | _ => True
theorem Cv.tail : ∀ {c : PI} {r : List PI}, Cv (c :: r) → Cv r
  | c, [], _ => trivial
  | c, [b], _ => trivial
  | c, b :: a :: r, h => h.2.2
theorem prs_snoc {α : Type} : ∀ (xs : List α) (a b : α), prs (xs ++ [a, b]) = prs (xs ++ [a]) ++ [(a, b)]
  | [], a, b => rfl
  | [x], a, b => rfl
  | x :: y :: xs, a, b => by
    have h := prs_snoc (y :: xs) a b
    unfold prs at h ⊢
    simp only [List.cons_append, List.tail_cons, List.zip_cons_cons] at h ⊢
    rw [h]
theorem stp_snoc (xs : List PI) (a b : PI) : stp (xs ++ [a, b]) = stp (xs ++ [a]) ++ [(b.1 - a.1, b.2 - a.2)] := by
  unfold stp
  rw [prs_snoc, List.map_append]; rfl
theorem Cv.val : ∀ {t : List PI}, Cv t → (∀ s ∈ stp t.reverse, 1 ≤ s.1) ∧ (∀ q ∈ prs (stp t.reverse), q.1.2 * q.2.1 < q.2.2 * q.1.1)
  | [], _ => ⟨fun s h => absurd h (by simp [stp, prs]), fun s h => absurd h (by simp [stp, prs])⟩
  | [c], _ => ⟨fun s h => absurd h (by simp [stp, prs]), fun s h => absurd h (by simp [stp, prs])⟩
  | [c, b], h => by
    have h : b.1 < c.1 := h
    refine ⟨fun s hs => ?_, fun s hs => absurd hs (by simp [stp, prs])⟩
    simp [stp, prs] at hs
    subst hs
    simp only
    omega
  | c :: b :: a :: r, h => by
    obtain ⟨h1, h2, h3⟩ := h
    obtain ⟨i1, i2⟩ := Cv.val h3
    have e1 : (c :: b :: a :: r).reverse = (r.reverse ++ [a]) ++ [b, c] := by simp
    have e2 : (r.reverse ++ [a]) ++ [b] = (b :: a :: r).reverse := by simp
    have e3 : (b :: a :: r).reverse = r.reverse ++ [a, b] := by simp
    have st : stp (c :: b :: a :: r).reverse = stp (b :: a :: r).reverse ++ [(c.1 - b.1, c.2 - b.2)] := by
      rw [e1, stp_snoc, e2]
    have st2 : stp (b :: a :: r).reverse = stp (r.reverse ++ [a]) ++ [(b.1 - a.1, b.2 - a.2)] := by rw [e3, stp_snoc]
    refine ⟨fun s hs => ?_, fun q hq => ?_⟩
    · rw [st] at hs
      rcases List.mem_append.mp hs with hs | hs
      · exact i1 s hs
      · rw [List.mem_singleton] at hs
        subst hs
        simp only
        omega
    · rw [st, st2, List.append_assoc] at hq
      have hq : q ∈ prs (stp (r.reverse ++ [a]) ++ [(b.1 - a.1, b.2 - a.2), (c.1 - b.1, c.2 - b.2)]) := hq
      rw [prs_snoc] at hq
      rcases List.mem_append.mp hq with hq | hq
      · rw [← st2] at hq
        exact i2 q hq
      · rw [List.mem_singleton] at hq
        subst hq
        show (b.2 - a.2) * (c.1 - b.1) < (c.2 - b.2) * (b.1 - a.1)
        unfold crs at h1
        have e : (b.1 - a.1) * (c.2 - a.2) - (b.2 - a.2) * (c.1 - a.1) = (c.2 - b.2) * (b.1 - a.1) - (b.2 - a.2) * (c.1 - b.1) := by
          have e1 : c.2 - a.2 = (c.2 - b.2) + (b.2 - a.2) := by omega
          have e2 : c.1 - a.1 = (c.1 - b.1) + (b.1 - a.1) := by omega
          rw [e1, e2, Int.mul_add, Int.mul_add, Int.mul_comm (b.1 - a.1) (c.2 - b.2), Int.mul_comm (b.1 - a.1) (b.2 - a.2)]
          omega
        omega
structure Low (R t : List PI) (k : Nat) : Prop where
  cv : Cv t
  sub : ∀ q ∈ t, q ∈ R.take k
  len : t.length ≤ k
  zero : k = 0 → t = []
  bot : 0 < k → t.getLast? = R.head?
theorem p_lower {R : List PI} (hs : ∀ p ∈ R, sm p) (hinc : R.Pairwise fun p q => p.1 < q.1) (hl : R.length ≤ 1000) (hne : R ≠ []) :
    ∃ d, Fun F__law_lower [.lst (R.map pr)] d ∧ ∃ t, d = lad t.reverse ∧ Low R t R.length ∧ t.head? = R.getLast? := by
  refine Fun.ofE rfl ?_
  simp [b__law_lower, List.replicate]
  refine Ok_for' (fun k ρ => ∃ t x, ρ = [some (.dat (.lst (R.map pr))), some (.lst (t.reverse.map pr)), x] ∧ Low R t k ∧ (0 < k → t.head? = R[k - 1]?)) _ _ ⟨[], _, rfl, ⟨trivial, fun q h => absurd h (by simp), Nat.le_refl _, fun _ => rfl, fun h => absurd h (by simp)⟩, fun h => absurd h (by simp)⟩ ?_ ?_
  · rintro i d ρ hd ⟨t, x, rfl, lo, _⟩
    rw [List.getElem?_map] at hd
    obtain ⟨p, hp, rfl⟩ := Option.map_eq_some_iff.mp hd
    have hi : i < R.length := (List.getElem?_eq_some_iff.mp hp).1
    have hpi : R[i] = p := (List.getElem?_eq_some_iff.mp hp).2
    have small : ∀ q ∈ R.take i, q.1 < p.1 ∧ sm q := by
      intro q hq
      obtain ⟨j, hj, rfl⟩ := List.mem_iff_getElem.mp hq
      rw [List.length_take] at hj
      rw [List.getElem_take]
      refine ⟨?_, hs _ (List.getElem_mem _)⟩
      rw [← hpi]
      exact List.pairwise_iff_getElem.mp hinc j i (by omega) hi (by omega)
    have sp : sm p := hs p (List.mem_of_getElem? hp)
    simp only [tgName_eq, putW_eq]
    simp
    refine Ok_while' (fun n ρ => ∃ t, ρ = [some (.dat (.lst (R.map pr))), some (.lst (t.reverse.map pr)), some (.dat (pr p))] ∧ t.length = n ∧ Low R t i) (fun ρ => ∃ t, ρ = [some (.dat (.lst (R.map pr))), some (.lst (t.reverse.map pr)), some (.dat (pr p))] ∧ Low R t i ∧ Cv (p :: t)) ?_ ?_ t.length _ ⟨t, by simp, rfl, lo⟩
    · rintro n ρ ⟨t, rfl, rfl, lo⟩
      match t, lo with
      | [], lo =>
        simp
        exact ⟨lo, trivial⟩
      | [b], lo =>
        simp
        exact ⟨[b], rfl, lo, (small b (lo.sub b (by simp))).1⟩
      | b :: a :: r, lo =>
        obtain ⟨b1, b2⟩ := small b (lo.sub b (by simp))
        obtain ⟨a1, a2⟩ := small a (lo.sub a (by simp))
        have e2 : ixDD (.lst ((b :: a :: r).reverse.map pr)) (.int (-2)) = some (.val (pr a)) := ix_lstL (k := 2) (by decide) (by simp) (by simp)
        have e1 : ixDD (.lst ((b :: a :: r).reverse.map pr)) (.int (-1)) = some (.val (pr b)) := ix_lstL (k := 1) (by decide) (by simp) (by simp)
        have hlen : (1 : Int) < (((b :: a :: r).reverse.map pr).length : Int) := by simp; omega
        have ex : (b :: a :: r).reverse.map pr = (a :: r).reverse.map pr ++ [pr b] := by simp
        have hw := popW_snoc (xs := (a :: r).reverse.map pr) (d := pr b)
        rw [← ex] at hw
        generalize hL : (b :: a :: r).reverse.map pr = L at *
        by_cases hc : crs a b p ≤ 0
        · simp [hlen, e1, e2, (p_cross a2 b2 sp).a3, hc, hw]
          exact ⟨r.length + 1, by omega, a :: r, by simp, by simp, ⟨lo.cv.tail, fun q hq => lo.sub q (List.mem_cons_of_mem _ hq), by have := lo.len; simp at this ⊢; omega, fun h => (nomatch lo.zero h), fun h => by rw [← lo.bot h]; simp⟩⟩
        · simp [hlen, e1, e2, (p_cross a2 b2 sp).a3, hc]
          exact ⟨b :: a :: r, by rw [← hL]; simp, lo, by omega, b1, lo.cv⟩
    · rintro ρ ⟨t, rfl, lo, hc⟩
      have hlt : t.length < sizeLine := Nat.lt_of_le_of_lt (Nat.le_trans lo.len (Nat.le_trans (Nat.le_of_lt hi) hl)) (by decide)
      simp [hlt]
      refine ⟨p :: t, by simp, ⟨hc, fun q hq => ?_, by rw [List.length_cons]; have := lo.len; omega, fun h => absurd h (by simp), fun _ => ?_⟩, by rw [hp]; rfl⟩
      · rw [take_get hp]
        rcases List.mem_cons.mp hq with rfl | hq
        · simp
        · exact List.mem_append_left _ (lo.sub q hq)
      · by_cases h0 : i = 0
        · rw [lo.zero h0]
          subst h0
          rw [List.head?_eq_getElem?, hp]; rfl
        · have hb := lo.bot (by omega)
          rw [← hb]
          cases t with
          | nil =>
            cases R with
            | nil => exact absurd rfl hne
            | cons a b => cases hb
          | cons a b => rw [List.getLast?_cons_cons]
  · rintro ρ ⟨t, x, rfl, lo, hh⟩
    rw [List.length_map] at lo hh
    have hpos : 0 < R.length := List.length_pos_iff.mpr hne
    simp
    exact ⟨t, by simp [lad], lo, by rw [hh hpos, List.getLast?_eq_getElem?]⟩

def stepS (w m : Int) (A : Int → Prop) (t : Int) : Prop := ∃ a, A a ∧ ∃ j : Int, 0 ≤ j ∧ j ≤ m ∧ t = a + j * w
def SmS : List PI → (Int → Prop) → Int → Prop
  | [], A => A
  | p :: r, A => SmS r (stepS p.1 p.2 A)
def tot : List PI → Int
  | [] => 0
  | p :: r => p.2 * p.1 + tot r
theorem SmS_iff : ∀ {r : List PI} {A B : Int → Prop}, (∀ t, A t ↔ B t) → ∀ t, SmS r A t ↔ SmS r B t
  | [], A, B, h, t => h t
  | p :: r, A, B, h, t => SmS_iff (r := r) (fun u => ⟨fun ⟨a, ha, j⟩ => ⟨a, (h a).mp ha, j⟩, fun ⟨a, ha, j⟩ => ⟨a, (h a).mpr ha, j⟩⟩) t
theorem SmS_snoc : ∀ {r : List PI} {p : PI} {A : Int → Prop}, SmS (r ++ [p]) A = stepS p.1 p.2 (SmS r A)
  | [], p, A => rfl
  | q :: r, p, A => by
    show SmS (r ++ [p]) _ = _
    rw [SmS_snoc]; rfl
theorem SmS_bound : ∀ {r : List PI} {A : Int → Prop} {lo hi : Int}, (∀ p ∈ r, 0 ≤ p.1) → (∀ t, A t → lo ≤ t ∧ t ≤ hi) → ∀ t, SmS r A t → lo ≤ t ∧ t ≤ hi + tot r
  | [], A, lo, hi, _, h, t, ht => by have := h t ht; simp only [tot]; omega
  | p :: r, A, lo, hi, hr, h, t, ht => by
    have hp := hr p (List.mem_cons_self ..)
    have := SmS_bound (r := r) (lo := lo) (hi := hi + p.2 * p.1) (fun q hq => hr q (List.mem_cons_of_mem _ hq)) (fun u ⟨a, ha, j, j0, j1, e⟩ => by
      have b := h a ha
      have b1 : 0 ≤ j * p.1 := Int.mul_nonneg j0 hp
      have b2 : j * p.1 ≤ p.2 * p.1 := Int.mul_le_mul_of_nonneg_right j1 hp
      omega) t ht
    simp only [tot]
    omega
theorem SmS_sym : ∀ {r : List PI} {A : Int → Prop} {c : Int}, ∀ t, SmS r A t ↔ SmS r (fun x => A (c - x)) (c + tot r - t)
  | [], A, c, t => by
    show A t ↔ A (c - (c + 0 - t))
    rw [show c - (c + 0 - t) = t by omega]
  | p :: r, A, c, t => by
    show SmS r (stepS p.1 p.2 A) t ↔ SmS r (stepS p.1 p.2 fun x => A (c - x)) (c + (p.2 * p.1 + tot r) - t)
    rw [SmS_sym (r := r) (A := stepS p.1 p.2 A) (c := c + p.2 * p.1) t, show c + p.2 * p.1 + tot r - t = c + (p.2 * p.1 + tot r) - t by omega]
    refine SmS_iff (fun u => ?_) _
    constructor
    · rintro ⟨a, ha, j, j0, j1, e⟩
      refine ⟨c - a, by show A (c - (c - a)); rw [show c - (c - a) = a by omega]; exact ha, p.2 - j, by omega, by omega, ?_⟩
      rw [Int.sub_mul]; omega
    · rintro ⟨a, ha, j, j0, j1, e⟩
      refine ⟨c - a, ha, p.2 - j, by omega, by omega, ?_⟩
      rw [Int.sub_mul]; omega
theorem nodup_len {l l' : List Int} (h : l.Nodup) (s : ∀ x ∈ l, x ∈ l') : l.length ≤ l'.length := by
  induction l generalizing l' with
  | nil => exact Nat.zero_le _
  | cons a l ih =>
    rw [List.nodup_cons] at h
    have hm := s a (List.mem_cons_self ..)
    have := ih h.2 (l' := l'.erase a) fun x hx => (List.mem_erase_of_ne (fun e : x = a => h.1 (by rw [← e]; exact hx))).mpr (s x (List.mem_cons_of_mem _ hx))
    rw [List.length_erase_of_mem hm] at this
    have := List.length_pos_of_mem hm
    rw [List.length_cons]
    omega
theorem keys_len {l : List Int} (h : l.Nodup) (b : ∀ x ∈ l, 0 ≤ x ∧ x ≤ 500) : l.length ≤ 501 := by
  have := nodup_len h (l' := (List.range 501).map fun i : Nat => (i : Int)) fun x hx => by
    have := b x hx
    exact List.mem_map.mpr ⟨x.toNat, List.mem_range.mpr (by omega), by omega⟩
  simpa using this

def sx (ss : List PI) : Int := (ss.map (·.1)).sum
theorem stp_sum : ∀ {L : List PI} {a b : PI}, L.head? = some a → L.getLast? = some b → sx (stp L) = b.1 - a.1
  | [], a, b, h, _ => by cases h
  | [x], a, b, h, g => by cases h; cases g; simp [sx, stp, prs]
  | x :: y :: r, a, b, h, g => by
    cases h
    have ih := stp_sum (L := y :: r) (a := y) (b := b) rfl (by rw [← g, List.getLast?_cons_cons])
    have e : stp (x :: y :: r) = (y.1 - x.1, y.2 - x.2) :: stp (y :: r) := rfl
    rw [e]
    show (y.1 - x.1) + sx (stp (y :: r)) = _
    rw [ih]; omega
theorem tot_map : ∀ {ss : List PI}, (∀ s ∈ ss, 1 ≤ s.1) → tot (ss.map rg) = sx ss
  | [], _ => rfl
  | s :: r, h => by
    show (rg s).2 * (rg s).1 + tot (r.map rg) = s.1 + sx r
    rw [tot_map fun q hq => h q (List.mem_cons_of_mem _ hq)]
    have hs := h s (List.mem_cons_self ..)
    have : (rg s).2 * (rg s).1 = s.1 := Int.mul_ediv_cancel' (Int.gcd_dvd_left ..)
    omega
theorem Val.tot {L : List PI} {deg : Int} (v : Val L deg) : tot (rgs L) = deg := by
  obtain ⟨h, e⟩ := v.fst
  obtain ⟨g, e'⟩ := v.lst
  unfold rgs
  rw [tot_map v.inc, stp_sum e e']
  simp
theorem Val.deg {L : List PI} {deg : Int} (v : Val L deg) : 1 ≤ deg ∧ deg ≤ 500 := by
  obtain ⟨g, e'⟩ := v.lst
  have h := v.rng _ (List.mem_of_getLast? e')
  refine ⟨?_, h.2.1⟩
  rw [← v.tot]
  have h2 := v.two
  have hl : 0 < (stp L).length := by rw [stp_len]; omega
  unfold rgs
  rw [tot_map v.inc]
  cases hs : stp L with
  | nil => rw [hs] at hl; exact absurd hl (by simp)
  | cons s r =>
    have h1 := v.inc s (by rw [hs]; exact List.mem_cons_self ..)
    have h3 : 0 ≤ sx r := by
      have : ∀ x ∈ r, 1 ≤ x.1 := fun x hx => v.inc x (by rw [hs]; exact List.mem_cons_of_mem _ hx)
      clear hs hl
      induction r with
      | nil => exact Int.le_refl _
      | cons a r ih =>
        have h4 := this a (List.mem_cons_self ..)
        have h5 := ih fun x hx => this x (List.mem_cons_of_mem _ hx)
        show 0 ≤ a.1 + sx r
        omega
    show 1 ≤ s.1 + sx r
    omega
theorem Val.rung {L : List PI} {deg : Int} (v : Val L deg) {p : PI} (h : p ∈ rgs L) : 1 ≤ p.1 ∧ 1 ≤ p.2 ∧ p.1 ≤ 500 ∧ p.2 ≤ 500 := by
  obtain ⟨s, hs, rfl⟩ := List.mem_map.mp h
  have h1 := v.inc s hs
  have h2 := (v.small hs).1
  obtain ⟨g1, g2, _⟩ := rg_ok h1 h2
  have e : (rg s).2 * (rg s).1 = s.1 := Int.mul_ediv_cancel' (Int.gcd_dvd_left ..)
  have hg : (rg s).2 = (Int.gcd s.1 s.2 : Int) := rfl
  have hp : 1 ≤ (rg s).1 := by
    rcases Int.lt_or_le 0 (rg s).1 with h | h
    · exact h
    · have := Int.mul_le_mul_of_nonneg_left h (by omega : 0 ≤ (rg s).2)
      omega
  refine ⟨hp, by omega, ?_, by omega⟩
  have := Int.mul_le_mul_of_nonneg_right (by omega : 1 ≤ (rg s).2) (by omega : 0 ≤ (rg s).1)
  omega
theorem tot_take {r : List PI} (h : ∀ p ∈ r, 1 ≤ p.1 ∧ 1 ≤ p.2 ∧ p.1 ≤ 500 ∧ p.2 ≤ 500) (k : Nat) : tot (r.take k) ≤ tot r := by
  induction r generalizing k with
  | nil => simp
  | cons p r ih =>
    have hp := h p (List.mem_cons_self ..)
    have h0 : 0 ≤ p.2 * p.1 := Int.mul_nonneg (by omega) (by omega)
    cases k with
    | zero =>
      have := ih (fun q hq => h q (List.mem_cons_of_mem _ hq)) 0
      simp only [List.take_zero, tot] at this ⊢
      omega
    | succ k =>
      have := ih (fun q hq => h q (List.mem_cons_of_mem _ hq)) k
      simp only [List.take_succ_cons, tot] at this ⊢
      omega
theorem Val.sums {L : List PI} {deg : Int} (v : Val L deg) {k : Nat} {t : Int} (h : SmS ((rgs L).take k) (· = 0) t) : 0 ≤ t ∧ t ≤ 500 := by
  have hr := fun p (hp : p ∈ rgs L) => v.rung hp
  have b := SmS_bound (r := (rgs L).take k) (lo := 0) (hi := 0) (fun p hp => by have := (hr p (List.mem_of_mem_take hp)).1; omega) (fun t (e : t = 0) => by omega) t h
  have := tot_take hr k
  have := v.tot
  have := v.deg
  omega

/-- a dict of sums: what its keys are, its values are tuples of the same length -/
structure Sums (ps : List (Int × D)) (S : Int → Prop) (n : Nat) : Prop where
  nd : (keysA ps).Nodup
  iff : ∀ t, t ∈ keysA ps ↔ S t
  val : ∀ p ∈ ps, ∃ xs, p.2 = .tup xs ∧ xs.length = n
structure Mid (S : Int → Prop) (n : Nat) (w m : Int) (done qs : List (Int × D)) : Prop where
  nd : (keysA qs).Nodup
  sub : ∀ t ∈ keysA qs, S t
  val : ∀ p ∈ qs, ∃ xs, p.2 = .tup xs ∧ xs.length = n
  all : ∀ q ∈ done, ∀ j : Int, 0 ≤ j → j ≤ m → q.1 + j * w ∈ keysA qs
def Got (y w : Int) (n : Nat) (qs : List (Int × D)) : Prop := ∀ j : Int, 0 ≤ j → j < n → y + j * w ∈ keysA qs
theorem keysA_mem {ps : List (Int × D)} {p : Int × D} (h : p ∈ ps) : p.1 ∈ keysA ps := List.mem_map.mpr ⟨p, h, rfl⟩
theorem keysA_len {ps : List (Int × D)} : (keysA ps).length = ps.length := List.length_map ..
theorem p_sums_of {L : List PI} {deg : Int} (v : Val L deg) : Ret F_sums_of [.dat (lad L)] fun r _ => ∃ ps, (r = .dic (dK ps) (dV ps) ∨ r = .dat (.dic (dK ps) (dV ps))) ∧ Sums ps (SmS (rgs L) (· = 0)) (rgs L).length := by
  refine Ret.of rfl rfl ?_
  simp [b_sums_of, List.replicate, foldP_1, (p_rungs_of v).a1]
  refine Ok_for' (fun k ρ => ∃ W1 ps a b c d e f, ρ = [some (.dat (lad L)), some W1, a, b, c, d, e, f] ∧ (W1 = .dic (dK ps) (dV ps) ∨ W1 = .dat (.dic (dK ps) (dV ps))) ∧ Sums ps (SmS ((rgs L).take k) (· = 0)) k) _ _
    ⟨_, [(0, .tup [])], _, _, _, _, _, _, rfl, .inl rfl, ⟨by simp [keysA], fun t => by simp [keysA, SmS], fun p hp => by rw [List.mem_singleton] at hp; subst hp; exact ⟨[], rfl, rfl⟩⟩⟩ ?_ ?_
  · rintro i x ρ hd ⟨W1, ps, a, b, c, d, e, f, rfl, hW, sm0⟩
    rw [List.getElem?_map] at hd
    obtain ⟨p, hp, rfl⟩ := Option.map_eq_some_iff.mp hd
    have hpm := List.mem_of_getElem? hp
    obtain ⟨w1, m1, w2, m2⟩ := v.rung hpm
    have hS : SmS ((rgs L).take (i + 1)) (· = 0) = stepS p.1 p.2 (SmS ((rgs L).take i) (· = 0)) := by rw [take_get hp, SmS_snoc]
    have hil : i ≤ 1000 := by
      have h1 := (List.getElem?_eq_some_iff.mp hp).1
      have h2 : (rgs L).length = L.length - 1 := by rw [rgs, List.length_map, stp_len]
      have := v.sz
      omega
    have mid : ∀ (b c d e f : Option W), Ok (forL (tgTup 2 (tgCons (tgName [] 5) (tgCons (tgName [] 6) tgNil)))
  (stFor (itR1 (ev2 addD (evV 3) (evC (.int 1)))) (tgName [] 7)
  (stExpr (evMut 4 W.isDic setdW (evCons [] (ev2 addD (evV 5) (ev2 mulD (evV 7) (evV 2))) (evCons [] (evTup (evStar (evV 6) (evCons [] (evV 7) evNil))) evNil))))) (ps.map fun p => .tup [.int p.1, p.2])
       [some (.dat (lad L)), some (.dat (.dic (dK ps) (dV ps))), some (.dat (.int p.1)), some (.dat (.int p.2)), some (.dic [] []), d, e, f]) fun fl ρ => fl = .nx ∧ ∃ qs d e f, ρ = [some (.dat (lad L)), some (.dat (.dic (dK ps) (dV ps))), some (.dat (.int p.1)), some (.dat (.int p.2)), some (.dic (dK qs) (dV qs)), d, e, f] ∧ Sums qs (SmS ((rgs L).take (i + 1)) (· = 0)) (i + 1) := by
      intro b c d e f
      have fits : ∀ {qs : List (Int × D)}, (keysA qs).Nodup → (∀ t ∈ keysA qs, SmS ((rgs L).take (i + 1)) (· = 0) t) → qs.length < sizeLine := by
        intro qs h1 h2
        have := keys_len h1 fun x hx => v.sums (h2 x hx)
        rw [keysA_len] at this
        exact Nat.lt_of_le_of_lt this (by decide)
      refine Ok_for' (fun n ρ => ∃ qs d e f, ρ = [some (.dat (lad L)), some (.dat (.dic (dK ps) (dV ps))), some (.dat (.int p.1)), some (.dat (.int p.2)), some (.dic (dK qs) (dV qs)), d, e, f] ∧ Mid (SmS ((rgs L).take (i + 1)) (· = 0)) (i + 1) p.1 p.2 (ps.take n) qs) _ _ ⟨[], _, _, _, rfl, ⟨List.nodup_nil, fun t h => absurd h (by simp [keysA]), fun q h => absurd h (by simp), fun q h => absurd h (by simp)⟩⟩ ?_ ?_
      · rintro n x ρ hx ⟨qs, d, e, f, rfl, ⟨q1, q2, q3, q4⟩⟩
        rw [List.getElem?_map] at hx
        obtain ⟨y, hy, rfl⟩ := Option.map_eq_some_iff.mp hx
        have hym := List.mem_of_getElem? hy
        obtain ⟨xs, hxs, hxl⟩ := sm0.val y hym
        have ir : inR (p.2 + 1) := inR_small (by omega) (by omega)
        have hSy := (sm0.iff y.1).mp (keysA_mem hym)
        simp [ir, hxs]
        refine Ok_for' (fun m ρ => ∃ qs g, ρ = [some (.dat (lad L)), some (.dat (.dic (dK ps) (dV ps))), some (.dat (.int p.1)), some (.dat (.int p.2)), some (.dic (dK qs) (dV qs)), some (.dat (.int y.1)), some (.dat (.tup xs)), g] ∧ Mid (SmS ((rgs L).take (i + 1)) (· = 0)) (i + 1) p.1 p.2 (ps.take n) qs ∧ Got y.1 p.1 m qs) _ _ ⟨qs, _, rfl, ⟨q1, q2, q3, q4⟩, fun j h1 h2 => by simp at h2; omega⟩ ?_ ?_
        · rintro m z ρ hz ⟨qs, g, rfl, ⟨q1, q2, q3, q4⟩, q5⟩
          obtain ⟨hm, rfl⟩ := upto_some hz
          have mk : mulOk (0 + (m : Int)) p.1 = true := mulOk_l (by omega)
          have hsl : xs.length + 1 ≤ sizeLine := Nat.le_trans (by omega : xs.length + 1 ≤ 1001) (by decide)
          obtain ⟨qs', e', hset, s1, s2, s3⟩ := setdW_A (k := y.1 + (0 + (m : Int)) * p.1) (d := .tup (xs ++ [.int (0 + (m : Int))])) (fits q1 q2)
          have new : SmS ((rgs L).take (i + 1)) (· = 0) (y.1 + (0 + (m : Int)) * p.1) := by
            rw [hS]; exact ⟨y.1, hSy, 0 + (m : Int), by omega, by omega, rfl⟩
          simp only [Int.zero_add] at mk hset s2 s3 new
          simp [mk, hsl, hset]
          refine ⟨qs', ⟨rfl, rfl⟩, ⟨s1 q1, fun t ht => ?_, fun q hq => ?_, fun q hq j j0 j1 => (s2 _).mpr (.inl (q4 q hq j j0 j1))⟩, fun j j0 j1 => ?_⟩
          · rcases (s2 t).mp ht with h | rfl
            · exact q2 t h
            · exact new
          · rcases s3 q hq with h | rfl
            · exact q3 q h
            · exact ⟨_, rfl, by simp [hxl]⟩
          · by_cases hj : j < m
            · exact (s2 _).mpr (.inl (q5 j j0 hj))
            · have : j = m := by omega
              subst this
              exact (s2 _).mpr (.inr rfl)
        · rintro ρ ⟨qs, g, rfl, ⟨q1, q2, q3, q4⟩, q5⟩
          rw [upto_len] at q5
          simp
          refine ⟨qs, ⟨rfl, rfl⟩, ⟨q1, q2, q3, fun q hq j j0 j1 => ?_⟩⟩
          rw [take_get hy] at hq
          rcases List.mem_append.mp hq with hq | hq
          · exact q4 q hq j j0 j1
          · rw [List.mem_singleton] at hq
            subst hq
            exact q5 j j0 (by omega)
      · rintro ρ ⟨qs, d, e, f, rfl, ⟨q1, q2, q3, q4⟩⟩
        rw [List.length_map, List.take_length] at q4
        refine ⟨rfl, qs, d, e, f, rfl, q1, fun t => ⟨q2 t, fun ht => ?_⟩, q3⟩
        rw [hS] at ht
        obtain ⟨a, ha, j, j0, j1, rfl⟩ := ht
        obtain ⟨q, hq, rfl⟩ := List.mem_map.mp ((sm0.iff a).mpr ha)
        exact q4 q hq j j0 j1
    rcases hW with rfl | rfl
    · simp
      refine (mid (some (.dat (.int p.1))) (some (.dat (.int p.2))) d e f).mono ?_
      rintro _ _ ⟨rfl, qs, d, e, f, rfl, sq⟩
      simp
      exact ⟨qs, ⟨rfl, rfl⟩, sq⟩
    · simp
      refine (mid (some (.dat (.int p.1))) (some (.dat (.int p.2))) d e f).mono ?_
      rintro _ _ ⟨rfl, qs, d, e, f, rfl, sq⟩
      simp
      exact ⟨qs, ⟨rfl, rfl⟩, sq⟩
  · rintro ρ ⟨W1, ps, a, b, c, d, e, f, rfl, hW, sm0⟩
    rw [List.length_map, List.take_length] at sm0
    rcases hW with rfl | rfl
    · simp
      exact ⟨_, rfl, ps, .inl rfl, sm0⟩
    · simp
      exact ⟨ps, ⟨rfl, rfl⟩, sm0⟩

/-- rising, and these members -/
def Is (T : List Int) (S : Int → Prop) : Prop := T.Pairwise (· < ·) ∧ ∀ t, t ∈ T ↔ S t
theorem Is.uniq {T U : List Int} {S S' : Int → Prop} (h : Is T S) (g : Is U S') (e : ∀ t, S t ↔ S' t) : T = U := by
  have n1 : T.Nodup := h.1.imp fun h => by omega
  have n2 : U.Nodup := g.1.imp fun h => by omega
  refine sorted_uniq (List.perm_iff_count.mpr fun a => ?_) (h.1.imp fun h => by omega) (g.1.imp fun h => by omega)
  have m : a ∈ T ↔ a ∈ U := (h.2 a).trans ((e a).trans (g.2 a).symm)
  by_cases ha : a ∈ T
  · rw [n1.count, n2.count]; simp [ha, m.mp ha]
  · have hb : a ∉ U := fun h => ha (m.mpr h)
    rw [n1.count, n2.count]; simp [ha, hb]
theorem Is.sort {ks : List Int} {S : Int → Prop} (n : ks.Nodup) (h : ∀ t, t ∈ ks ↔ S t) : Is (sortI ks) S := by
  refine ⟨?_, fun t => ((sortI_perm ks).mem_iff).trans (h t)⟩
  have hn : (sortI ks).Nodup := (sortI_perm ks).nodup_iff.mpr n
  exact (sortI_le ks).imp₂ (fun a b h1 h2 => by omega) hn
theorem Is.filter {T : List Int} {S : Int → Prop} (h : Is T S) {p : Int → Bool} {Q : Int → Prop} (hp : ∀ t, S t → (p t = true ↔ Q t)) : Is (T.filter p) (fun t => S t ∧ Q t) := by
  refine ⟨h.1.filter _, fun t => ?_⟩
  rw [List.mem_filter, h.2]
  exact ⟨fun ⟨a, b⟩ => ⟨a, (hp t a).mp b⟩, fun ⟨a, b⟩ => ⟨a, (hp t a).mpr b⟩⟩
/-- the row of sums that sums_of gives -/
theorem row_ex {L : List PI} {deg : Int} (v : Val L deg) : ∃ ps, (∃ w io, F_sums_of [.dat (lad L)] = .ret w io ∧ io.length = 1 ∧ (w = .dic (dK ps) (dV ps) ∨ w = .dat (.dic (dK ps) (dV ps)))) ∧ Sums ps (SmS (rgs L) (· = 0)) (rgs L).length := by
  obtain ⟨w, io, e, l, ps, hw, hs⟩ := p_sums_of v
  exact ⟨ps, ⟨w, io, e, l, hw⟩, hs⟩

open Classical in
noncomputable def psOf (L : List PI) : List (Int × D) := if h : ∃ deg, Val L deg then (row_ex h.choose_spec).choose else []
theorem psOf_ok {L : List PI} {deg : Int} (v : Val L deg) : (∃ w io, F_sums_of [.dat (lad L)] = .ret w io ∧ io.length = 1 ∧ (w = .dic (dK (psOf L)) (dV (psOf L)) ∨ w = .dat (.dic (dK (psOf L)) (dV (psOf L))))) ∧ Sums (psOf L) (SmS (rgs L) (· = 0)) (rgs L).length := by
  have h : ∃ deg, Val L deg := ⟨deg, v⟩
  unfold psOf
  rw [dif_pos h]
  exact (row_ex h.choose_spec).choose_spec
def rowD (L : List PI) : D := .dic (dK []) (dV [])
noncomputable def rowOf (L : List PI) : D := .dic (dK (psOf L)) (dV (psOf L))
theorem p_row {L : List PI} {deg : Int} (v : Val L deg) {ρ : Rho} {Q : D → Rho → Prop} (hq : Q (rowOf L) ρ) : Ok (ofFR 1 [.dat (lad L)] ρ (F_sums_of [.dat (lad L)])) fun r ρ1 => Ok (freeze [] r ρ1) Q := by
  obtain ⟨⟨w, io, e, l, hw⟩, _⟩ := psOf_ok v
  rw [e]
  show Ok (if 1 ≤ io.length then _ else _) _
  rw [if_pos (by omega)]
  rcases hw with rfl | rfl
  · match io, l with
    | [u], _ => simpa [rowOf] using hq
  · match io, l with
    | [u], _ => simpa [rowOf] using hq
/-- in all ladders -/
def AllS (Ls : List (List PI)) (t : Int) : Prop := ∀ L ∈ Ls, SmS (rgs L) (· = 0) t
theorem p_sums {Ls : List (List PI)} {deg : Int} (v : Vals Ls deg) : ∃ T : List Int, Fun F_sums [.tup (Ls.map lad)] (.tup (T.map D.int)) ∧ Is T (AllS Ls) := by
  obtain ⟨L0, hL0, hh, _⟩ := v.ix0
  have s0 := (psOf_ok (v.all L0 hL0)).2
  have i0 := Is.sort s0.nd s0.iff
  let p : Int → Bool := fun t => Ls.all fun L => decide (t ∈ keysA (psOf L))
  have hf : Is ((sortI (keysA (psOf L0))).filter p) (AllS Ls) := by
    have := i0.filter (p := p) (Q := AllS Ls) fun t _ => by
      show (Ls.all _) = true ↔ _
      rw [List.all_eq_true]
      exact forall_congr' fun L => forall_congr' fun hL => by rw [decide_eq_true_iff, (psOf_ok (v.all L hL)).2.iff t]
    exact ⟨this.1, fun t => (this.2 t).trans ⟨fun h => h.2, fun h => ⟨h L0 hL0, h⟩⟩⟩
  refine ⟨_, ?_, hf⟩
  refine Fun.of rfl ?_
  have hl4 : Ls.length ≤ sizeLine := Nat.le_trans v.sz (by decide)
  have ix : ixDD (.lst (Ls.map rowOf)) (.int 0) = some (.val (rowOf L0)) := ix_lst0 (by
    rw [List.getElem?_map, ← List.head?_eq_getElem?, hh]; rfl)
  simp [b_sums, List.replicate, (p_check v).a1]
  refine Ok_lcMap Ls lad rowOf ?_
  simp [hl4, vsOk, isDat, wipeR, restR]
  refine ⟨fun L hL => p_row (v.all L hL) (by simp), ?_⟩
  refine Ok_lcFiltJ (fun ρ => ∃ w1, (w1 = W.lst (Ls.map rowOf) ∨ w1 = W.dat (.lst (Ls.map rowOf))) ∧ ρ = [some (W.dat (D.tup (Ls.map lad))), some w1, none, none, none]) (sortI (keysA (psOf L0))) D.int D.int p ?_
  have hk : (sortI (keysA (psOf L0))).length ≤ sizeLine := by
    rw [(sortI_perm _).length_eq]
    exact Nat.le_trans (keys_len s0.nd fun t ht => (v.all L0 hL0).sums (k := (rgs L0).length) (by rw [List.take_length]; exact (s0.iff t).mp ht)) (by decide)
  simp [ix, rowOf, hk, vsOk, isDat, wipeR]
  intro x hx
  have inr : ∀ L, inDD (.int x) (D.dic (dK (psOf L)) (dV (psOf L))) = some (.val (.bl (decide (x ∈ keysA (psOf L))))) := by
    intro L
    show (if allInl (dK (psOf L)) = true then (keyD (.int x)).bind fun q => bl (dlook (dK (psOf L)) (dV (psOf L)) q).isSome else none) = _
    rw [if_pos allInl_dK, keyD_int]
    show bl (dlook (dK (psOf L)) (dV (psOf L)) (kI x)).isSome = _
    rw [dlook_A]; rfl
  have al : allD (.lst (Ls.map fun L => .bl (decide (x ∈ keysA (psOf L))))) = some (.val (.bl (p x))) := by
    have e : D.blsOf (Ls.map fun L => D.bl (decide (x ∈ keysA (psOf L)))) = some (Ls.map fun L => decide (x ∈ keysA (psOf L))) := by
      generalize Ls = M
      induction M with
      | nil => rfl
      | cons a r ih => rw [List.map_cons, D.blsOf, ih]; rfl
    show (D.blsOf _).map _ = _
    rw [e]
    show some (R.val (.bl ((Ls.map _).all id))) = _
    rw [List.all_map]; rfl
  constructor
  · refine Ok_lcMap Ls rowOf (fun L => .bl (decide (x ∈ keysA (psOf L)))) ?_
    simp [hl4, vsOk, isDat, wipeR, restR, rowOf, inr, al]
  · refine Ok_lcMap Ls rowOf (fun L => .bl (decide (x ∈ keysA (psOf L)))) ?_
    simp [hl4, vsOk, isDat, wipeR, restR, rowOf, inr, al]

theorem map_int_inj {xs ys : List Int} : xs.map D.int = ys.map D.int ↔ xs = ys := by
  constructor
  · intro h
    induction xs generalizing ys with
    | nil => cases ys with
      | nil => rfl
      | cons y ys => cases h
    | cons x xs ih => cases ys with
      | nil => cases h
      | cons y ys =>
        rw [List.map_cons, List.map_cons] at h
        injection h with h1 h2
        injection h1 with h1
        rw [h1, ih h2]
  · intro h; rw [h]
theorem p_sums' {Ls : List (List PI)} {deg : Int} (v : Vals Ls deg) {T : List Int} (hT : Is T (AllS Ls)) : Fun F_sums [.tup (Ls.map lad)] (.tup (T.map D.int)) := by
  obtain ⟨U, hU, iU⟩ := p_sums v
  rw [Is.uniq hT iU fun _ => Iff.rfl]
  exact hU
theorem eq_tupI {xs ys : List Int} : eqD (.tup (xs.map D.int)) (.tup (ys.map D.int)) = some (.val (.bl (decide (xs = ys)))) :=
  eqD_num (n := 1) (m := 1) (.tup Nm.ints) (.tup Nm.ints) (by decide) (by decide) (by
    rw [decide_eq_true_iff]
    exact ⟨fun h => by rw [h], fun h => by injection h with h; exact map_int_inj.mp h⟩)
theorem eq_lstI {xs ys : List Int} : eqD (.lst (xs.map D.int)) (.lst (ys.map D.int)) = some (.val (.bl (decide (xs = ys)))) :=
  eqD_num (n := 1) (m := 1) (.lst Nm.ints) (.lst Nm.ints) (by decide) (by decide) (by
    rw [decide_eq_true_iff]
    exact ⟨fun h => by rw [h], fun h => by injection h with h; exact map_int_inj.mp h⟩)
theorem p_never {Ls : List (List PI)} {deg : Int} (v : Vals Ls deg) {T : List Int} (hT : Is T (AllS Ls)) : Fun F_never_factors [.tup (Ls.map lad)] (.bl (decide (T = [0, deg]))) := by
  refine Fun.of rfl ?_
  obtain ⟨L0, hL0, hh, i0⟩ := v.ix0
  obtain ⟨h0, i1⟩ := (v.all L0 hL0).lastIx
  have e : eqD (.tup (T.map D.int)) (.tup [.int 0, .int deg]) = some (.val (.bl (decide (T = [0, deg])))) := eq_tupI (ys := [0, deg])
  simp [b_never_factors, List.replicate, (p_sums' v hT).a1, i0, i1, e]

end Hd

namespace Hd
open PySem PySem.Spec Spl
/-! how often a prime divides -/
def Vp (p n : Int) (e : Nat) : Prop := p ^ e ∣ n ∧ ¬ p ^ (e + 1) ∣ n
theorem pow_dvdI {p : Int} {a b : Nat} (h : a ≤ b) : p ^ a ∣ p ^ b := by
  obtain ⟨c, rfl⟩ : ∃ c, b = a + c := ⟨b - a, by omega⟩
  rw [Int.pow_add]
  exact Int.dvd_mul_right _ _
theorem Vp.le {p n : Int} {e t : Nat} (h : Vp p n e) (d : p ^ t ∣ n) : t ≤ e := by
  refine Classical.byContradiction fun hn => h.2 (Int.dvd_trans (pow_dvdI (by omega)) d)
theorem Vp.uniq {p n : Int} {e f : Nat} (h : Vp p n e) (g : Vp p n f) : e = f := Nat.le_antisymm (g.le h.1) (h.le g.1)
theorem Vp.ne {p n : Int} {e : Nat} (h : Vp p n e) : n ≠ 0 := fun z => h.2 (by rw [z]; exact Int.dvd_zero _)
structure Prm (p : Int) : Prop where
  two : 2 ≤ p
  cut : ∀ a b : Int, p ∣ a * b → p ∣ a ∨ p ∣ b
theorem pow_ne {p : Int} (h : 2 ≤ p) (e : Nat) : p ^ e ≠ 0 := by
  induction e with
  | zero => rw [Int.pow_zero]; decide
  | succ e ih => rw [Int.pow_succ]; exact Int.mul_ne_zero ih (by omega)
theorem Vp.of {p n u : Int} {e : Nat} (h2 : 2 ≤ p) (e1 : n = p ^ e * u) (hu : ¬ p ∣ u) : Vp p n e := by
  refine ⟨by rw [e1]; exact Int.dvd_mul_right _ _, fun h => hu ?_⟩
  rw [e1, Int.pow_succ] at h
  exact Int.dvd_of_mul_dvd_mul_left (pow_ne h2 e) h
theorem Vp.split {p n : Int} {e : Nat} (h : Vp p n e) : ∃ u, n = p ^ e * u ∧ ¬ p ∣ u := by
  obtain ⟨u, hu⟩ := h.1
  refine ⟨u, hu, fun hd => h.2 ?_⟩
  rw [hu, Int.pow_succ]
  exact Int.mul_dvd_mul (Int.dvd_refl _) hd
theorem Vp.mul {p a b : Int} {e f : Nat} (P : Prm p) (h : Vp p a e) (g : Vp p b f) : Vp p (a * b) (e + f) := by
  obtain ⟨u, rfl, hu⟩ := h.split
  obtain ⟨v, rfl, hv⟩ := g.split
  refine Vp.of P.two (u := u * v) ?_ fun h => (P.cut u v h).elim hu hv
  rw [Int.pow_add]
  simp only [Int.mul_assoc, Int.mul_left_comm, Int.mul_comm]
theorem Vp.add {p a b : Int} {e : Nat} (h : Vp p a e) (d : p ^ (e + 1) ∣ b) : Vp p (a + b) e := by
  refine ⟨Int.dvd_add h.1 (Int.dvd_trans (pow_dvdI (by omega)) d), fun hd => h.2 ?_⟩
  have := Int.dvd_sub hd d
  rwa [Int.add_sub_cancel] at this
theorem vp_ex {p : Int} (h2 : 2 ≤ p) : ∀ (k : Nat) (n : Int), n.natAbs ≤ k → n ≠ 0 → ∃ e, Vp p n e
  | 0, n, hk, hn => absurd (by omega) hn
  | k + 1, n, hk, hn => by
    by_cases hd : p ∣ n
    · obtain ⟨m, rfl⟩ := hd
      have hm : m ≠ 0 := fun z => hn (by rw [z, Int.mul_zero])
      have hlt : m.natAbs < (p * m).natAbs := by
        rw [Int.natAbs_mul]
        have h1 : 2 ≤ p.natAbs := by omega
        have h3 : 0 < m.natAbs := by omega
        have := Nat.mul_le_mul h1 (Nat.le_refl m.natAbs)
        omega
      obtain ⟨e, he⟩ := vp_ex h2 k m (by omega) hm
      obtain ⟨u, hu, hn2⟩ := he.split
      exact ⟨e + 1, Vp.of h2 (u := u) (by rw [hu, Int.pow_succ, Int.mul_comm (p ^ e) p, Int.mul_assoc]) hn2⟩
    · exact ⟨0, Vp.of h2 (u := n) (by rw [Int.pow_zero, Int.one_mul]) hd⟩
open Classical in
noncomputable def hv (p n : Int) : Nat := if h : ∃ e, Vp p n e then h.choose else 0
theorem hv_ok {p n : Int} (h2 : 2 ≤ p) (hn : n ≠ 0) : Vp p n (hv p n) := by
  have h := vp_ex h2 _ n (Nat.le_refl _) hn
  unfold hv
  rw [dif_pos h]
  exact h.choose_spec
theorem hv_eq {p n : Int} {e : Nat} (h2 : 2 ≤ p) (h : Vp p n e) : hv p n = e := (hv_ok h2 h.ne).uniq h
/-- a prime by trying all -/
theorem Prm.of {p : Nat} (h2 : 2 ≤ p) (h : ∀ d ∈ List.range p, d ∣ p → d = 1) : Prm (p : Int) := by
  refine ⟨by omega, fun a b hd => ?_⟩
  by_cases ha : (p : Int) ∣ a
  · exact .inl ha
  refine .inr ?_
  have g : Nat.gcd p a.natAbs = 1 := by
    have h1 := Nat.gcd_dvd_left p a.natAbs
    have h3 := Nat.le_of_dvd (by omega) h1
    by_cases e : Nat.gcd p a.natAbs = p
    · exfalso
      have h4 := Nat.gcd_dvd_right p a.natAbs
      rw [e] at h4
      exact ha (Int.natAbs_dvd_natAbs.mp h4)
    · exact h _ (List.mem_range.mpr (by omega)) h1
  have hd2 : p ∣ a.natAbs * b.natAbs := by
    have := Int.natAbs_dvd_natAbs.mpr hd
    rwa [Int.natAbs_mul] at this
  exact Int.natAbs_dvd_natAbs.mp (Nat.Coprime.dvd_of_dvd_mul_left g hd2)
theorem dvd_sumI {d : Int} : ∀ {l : List Int}, (∀ x ∈ l, d ∣ x) → d ∣ l.sum
  | [], _ => by rw [List.sum_nil]; exact Int.dvd_zero _
  | x :: l, h => by
    rw [List.sum_cons]
    exact Int.dvd_add (h x (List.mem_cons_self ..)) (dvd_sumI fun y hy => h y (List.mem_cons_of_mem _ hy))
/-! products -/
def cf (f : List Int) (i : Nat) : Int := f[i]?.getD 0
def pterm (f g : List Int) (k i : Nat) : Int := if i ≤ k then cf f i * cf g (k - i) else 0
def pc (f g : List Int) (k : Nat) : Int := ((List.range f.length).map (pterm f g k)).sum
def prodC (f g : List Int) : List Int := (List.range (f.length + g.length - 1)).map (pc f g)
theorem cf_lt {f : List Int} {i : Nat} (h : cf f i ≠ 0) : i < f.length := by
  refine Classical.byContradiction fun hn => h ?_
  unfold cf
  rw [List.getElem?_eq_none (by omega)]; rfl
theorem sum_one {n i0 : Nat} {F : Nat → Int} (h : i0 < n) : ((List.range n).map F).sum = F i0 + ((List.range n).map fun i => if i = i0 then 0 else F i).sum := by
  induction n with
  | zero => omega
  | succ n ih =>
    rw [List.range_succ, List.map_append, List.map_append, List.sum_append, List.sum_append]
    by_cases e : i0 = n
    · subst e
      have : ((List.range i0).map fun i => if i = i0 then 0 else F i) = (List.range i0).map F := List.map_congr_left fun i hi => by
        rw [if_neg (by have := List.mem_range.mp hi; omega)]
      rw [this]
      simp
      omega
    · rw [ih (by omega)]
      have : n ≠ i0 := fun z => e z.symm
      simp [this]
      omega
/-- a point of a polynomial -/
def Pt (p : Int) (F : Nat → Int) (q : PI) : Prop := ∃ i e : Nat, q = ((i : Int), (e : Int)) ∧ Vp p (F i) e
def lf (w h : Int) (q : PI) : Int := w * q.2 - h * q.1
structure Lm (S : PI → Prop) (w h : Int) (l : PI) : Prop where
  mem : S l
  lo : ∀ q, S q → lf w h l ≤ lf w h q
  left : ∀ q, S q → lf w h q = lf w h l → l.1 ≤ q.1
structure Rm (S : PI → Prop) (w h : Int) (l : PI) : Prop where
  mem : S l
  lo : ∀ q, S q → lf w h l ≤ lf w h q
  right : ∀ q, S q → lf w h q = lf w h l → q.1 ≤ l.1
theorem lf_add {w h : Int} {i j e1 e2 : Nat} : lf w h (((i + j : Nat) : Int), ((e1 + e2 : Nat) : Int)) = lf w h ((i : Int), (e1 : Int)) + lf w h ((j : Int), (e2 : Int)) := by
  unfold lf
  simp only [Int.natCast_add, Int.mul_add]
  omega
theorem lf_lt {w h : Int} {k e1 e2 : Nat} (hw : 1 ≤ w) (hl : lf w h ((k : Int), (e1 : Int)) < lf w h ((k : Int), (e2 : Int))) : e1 < e2 := by
  unfold lf at hl
  have : w * (e1 : Int) < w * (e2 : Int) := by simp only at hl; omega
  have := Int.lt_of_mul_lt_mul_left this (by omega)
  omega
/-- all terms of a coefficient are divisible -/
theorem terms_dvd {p : Int} (P : Prm p) {f g : List Int} {k t : Nat} {b : Nat → Prop} (H : ∀ i j e1 e2, i + j = k → b i → Vp p (cf f i) e1 → Vp p (cf g j) e2 → t ≤ e1 + e2) (i : Nat) (hb : b i) : p ^ t ∣ pterm f g k i := by
  unfold pterm
  by_cases hi : i ≤ k
  · rw [if_pos hi]
    by_cases ha : cf f i = 0
    · rw [ha, Int.zero_mul]; exact Int.dvd_zero _
    by_cases hc : cf g (k - i) = 0
    · rw [hc, Int.mul_zero]; exact Int.dvd_zero _
    have h1 := hv_ok P.two ha
    have h2 := hv_ok P.two hc
    exact Int.dvd_trans (pow_dvdI (H i (k - i) _ _ (by omega) hb h1 h2)) (h1.mul P h2).1
  · rw [if_neg hi]; exact Int.dvd_zero _
theorem pc_dvd {p : Int} (P : Prm p) {f g : List Int} {k t : Nat} (H : ∀ i j e1 e2, i + j = k → Vp p (cf f i) e1 → Vp p (cf g j) e2 → t ≤ e1 + e2) : p ^ t ∣ pc f g k := by
  refine dvd_sumI fun x hx => ?_
  obtain ⟨i, _, rfl⟩ := List.mem_map.mp hx
  exact terms_dvd P (b := fun _ => True) (fun i j e1 e2 h _ => H i j e1 e2 h) i trivial
theorem pc_vp {p : Int} (P : Prm p) {f g : List Int} {i0 j0 e0 f0 : Nat} (h1 : Vp p (cf f i0) e0) (h2 : Vp p (cf g j0) f0) (H : ∀ i j e1 e2, i + j = i0 + j0 → i ≠ i0 → Vp p (cf f i) e1 → Vp p (cf g j) e2 → e0 + f0 + 1 ≤ e1 + e2) : Vp p (pc f g (i0 + j0)) (e0 + f0) := by
  unfold pc
  rw [sum_one (i0 := i0) (cf_lt h1.ne)]
  have et : pterm f g (i0 + j0) i0 = cf f i0 * cf g j0 := by
    unfold pterm
    rw [if_pos (by omega), Nat.add_sub_cancel_left]
  rw [et]
  refine (h1.mul P h2).add (dvd_sumI fun x hx => ?_)
  obtain ⟨i, _, rfl⟩ := List.mem_map.mp hx
  by_cases e : i = i0
  · rw [if_pos e]; exact Int.dvd_zero _
  · rw [if_neg e]
    exact terms_dvd P (b := fun i => i ≠ i0) (fun i j e1 e2 h hb => H i j e1 e2 h hb) i e
section
variable {p : Int} {f g : List Int} {w h : Int} {l1 l2 : PI}
/-- the least of a product -/
theorem conv_lo (P : Prm p) (hw : 1 ≤ w) (b1 : ∀ q, Pt p (cf f) q → lf w h l1 ≤ lf w h q) (b2 : ∀ q, Pt p (cf g) q → lf w h l2 ≤ lf w h q) {k e : Nat} (hk : Vp p (pc f g k) e) : lf w h l1 + lf w h l2 ≤ lf w h ((k : Int), (e : Int)) := by
  refine Classical.byContradiction fun hn => ?_
  refine hk.2 (pc_dvd P fun i j e1 e2 hij v1 v2 => ?_)
  have a1 := b1 _ ⟨i, e1, rfl, v1⟩
  have a2 := b2 _ ⟨j, e2, rfl, v2⟩
  have := lf_add (w := w) (h := h) (i := i) (j := j) (e1 := e1) (e2 := e2)
  rw [hij] at this
  exact lf_lt (h := h) (k := k) hw (by omega)
theorem conv_L (P : Prm p) (hw : 1 ≤ w) (A : Lm (Pt p (cf f)) w h l1) (B : Lm (Pt p (cf g)) w h l2) : Lm (Pt p (pc f g)) w h (l1.1 + l2.1, l1.2 + l2.2) := by
  obtain ⟨i0, e0, rfl, v1⟩ := A.mem
  obtain ⟨j0, f0, rfl, v2⟩ := B.mem
  have strict : ∀ i j e1 e2 : Nat, Vp p (cf f i) e1 → Vp p (cf g j) e2 → (i < i0 ∨ j < j0) → lf w h ((i0 : Int), (e0 : Int)) + lf w h ((j0 : Int), (f0 : Int)) < lf w h (((i + j : Nat) : Int), ((e1 + e2 : Nat) : Int)) := fun i j e1 e2 u1 u2 ho => by
    have a1 := A.lo _ ⟨i, e1, rfl, u1⟩
    have a2 := B.lo _ ⟨j, e2, rfl, u2⟩
    rw [lf_add]
    rcases ho with ho | ho
    · have : lf w h ((i : Int), (e1 : Int)) ≠ lf w h ((i0 : Int), (e0 : Int)) := fun z => by
        have := A.left _ ⟨i, e1, rfl, u1⟩ z
        simp only at this; omega
      omega
    · have : lf w h ((j : Int), (e2 : Int)) ≠ lf w h ((j0 : Int), (f0 : Int)) := fun z => by
        have := B.left _ ⟨j, e2, rfl, u2⟩ z
        simp only at this; omega
      omega
  have top : Vp p (pc f g (i0 + j0)) (e0 + f0) := pc_vp P v1 v2 fun i j e1 e2 hij hne u1 u2 => by
    have s := strict i j e1 e2 u1 u2 (by omega)
    rw [← lf_add, hij] at s
    exact lf_lt hw s
  have ee : lf w h ((i0 : Int) + (j0 : Int), (e0 : Int) + (f0 : Int)) = lf w h ((i0 : Int), (e0 : Int)) + lf w h ((j0 : Int), (f0 : Int)) := by
    have := lf_add (w := w) (h := h) (i := i0) (j := j0) (e1 := e0) (e2 := f0)
    simpa only [Int.natCast_add] using this
  refine ⟨⟨i0 + j0, e0 + f0, by simp only [Int.natCast_add], top⟩, ?_, ?_⟩
  · rintro q ⟨k, e, rfl, u⟩
    rw [ee]
    exact conv_lo P hw A.lo B.lo u
  · rintro q ⟨k, e, rfl, u⟩ hq
    rw [ee] at hq
    refine Classical.byContradiction fun hn => ?_
    have hn : k < i0 + j0 := by simp only at hn; omega
    refine u.2 (pc_dvd P fun i j e1 e2 hij u1 u2 => ?_)
    have s := strict i j e1 e2 u1 u2 (by omega)
    rw [← hq, hij] at s
    exact lf_lt hw s
theorem conv_R (P : Prm p) (hw : 1 ≤ w) (A : Rm (Pt p (cf f)) w h l1) (B : Rm (Pt p (cf g)) w h l2) : Rm (Pt p (pc f g)) w h (l1.1 + l2.1, l1.2 + l2.2) := by
  obtain ⟨i0, e0, rfl, v1⟩ := A.mem
  obtain ⟨j0, f0, rfl, v2⟩ := B.mem
  have strict : ∀ i j e1 e2 : Nat, Vp p (cf f i) e1 → Vp p (cf g j) e2 → (i0 < i ∨ j0 < j) → lf w h ((i0 : Int), (e0 : Int)) + lf w h ((j0 : Int), (f0 : Int)) < lf w h (((i + j : Nat) : Int), ((e1 + e2 : Nat) : Int)) := fun i j e1 e2 u1 u2 ho => by
    have a1 := A.lo _ ⟨i, e1, rfl, u1⟩
    have a2 := B.lo _ ⟨j, e2, rfl, u2⟩
    rw [lf_add]
    rcases ho with ho | ho
    · have : lf w h ((i : Int), (e1 : Int)) ≠ lf w h ((i0 : Int), (e0 : Int)) := fun z => by
        have := A.right _ ⟨i, e1, rfl, u1⟩ z
        simp only at this; omega
      omega
    · have : lf w h ((j : Int), (e2 : Int)) ≠ lf w h ((j0 : Int), (f0 : Int)) := fun z => by
        have := B.right _ ⟨j, e2, rfl, u2⟩ z
        simp only at this; omega
      omega
  have top : Vp p (pc f g (i0 + j0)) (e0 + f0) := pc_vp P v1 v2 fun i j e1 e2 hij hne u1 u2 => by
    have s := strict i j e1 e2 u1 u2 (by omega)
    rw [← lf_add, hij] at s
    exact lf_lt hw s
  have ee : lf w h ((i0 : Int) + (j0 : Int), (e0 : Int) + (f0 : Int)) = lf w h ((i0 : Int), (e0 : Int)) + lf w h ((j0 : Int), (f0 : Int)) := by
    have := lf_add (w := w) (h := h) (i := i0) (j := j0) (e1 := e0) (e2 := f0)
    simpa only [Int.natCast_add] using this
  refine ⟨⟨i0 + j0, e0 + f0, by simp only [Int.natCast_add], top⟩, ?_, ?_⟩
  · rintro q ⟨k, e, rfl, u⟩
    rw [ee]
    exact conv_lo P hw A.lo B.lo u
  · rintro q ⟨k, e, rfl, u⟩ hq
    rw [ee] at hq
    refine Classical.byContradiction fun hn => ?_
    have hn : i0 + j0 < k := by simp only at hn; omega
    refine u.2 (pc_dvd P fun i j e1 e2 hij u1 u2 => ?_)
    have s := strict i j e1 e2 u1 u2 (by omega)
    rw [← hq, hij] at s
    exact lf_lt hw s
end
end Hd

namespace Hd
open PySem PySem.Spec Spl
/-! the lower border, by popping -/
def popB : List PI → PI → List PI
  | b :: a :: r, c => if crs a b c ≤ 0 then popB (a :: r) c else b :: a :: r
  | t, _ => t
def hstk (R : List PI) : List PI := R.foldl (fun t c => c :: popB t c) []
def hull (R : List PI) : List PI := (hstk R).reverse
theorem pop_w {w h : Int} {a b c : PI} (hab : a.1 < b.1) (hbc : b.1 < c.1) (hw : 1 ≤ w) (hc : crs a b c ≤ 0) : ¬ (lf w h b < lf w h a ∧ lf w h b ≤ lf w h c) ∧ ¬ (lf w h b ≤ lf w h a ∧ lf w h b < lf w h c) := by
  -- A = lf a - lf b, C = lf c - lf b, u = b.1 - a.1, v = c.1 - b.1
  have key : (lf w h a - lf w h b) * (c.1 - b.1) + (lf w h c - lf w h b) * (b.1 - a.1) ≤ 0 := by
    have e : (lf w h a - lf w h b) * (c.1 - b.1) + (lf w h c - lf w h b) * (b.1 - a.1) = w * crs a b c := by
      unfold lf crs
      have e1 : w * a.2 - h * a.1 - (w * b.2 - h * b.1) = w * (a.2 - b.2) - h * (a.1 - b.1) := by rw [Int.mul_sub, Int.mul_sub]; omega
      have e2 : w * c.2 - h * c.1 - (w * b.2 - h * b.1) = w * (c.2 - b.2) - h * (c.1 - b.1) := by rw [Int.mul_sub, Int.mul_sub]; omega
      rw [e1, e2]
      generalize hA : a.2 - b.2 = A
      generalize hC : c.2 - b.2 = C
      generalize hu : b.1 - a.1 = u
      generalize hv : c.1 - b.1 = v
      have e3 : a.1 - b.1 = -u := by omega
      have e4 : c.2 - a.2 = C - A := by omega
      have e5 : b.2 - a.2 = -A := by omega
      have e6 : c.1 - a.1 = u + v := by omega
      rw [e3, e4, e5, e6]
      simp only [Int.sub_mul, Int.mul_sub, Int.mul_add, Int.neg_mul, Int.mul_neg, Int.mul_assoc]
      have h1 : w * (u * C) = w * (C * u) := by rw [Int.mul_comm u C]
      have h2 : w * (u * A) = w * (A * u) := by rw [Int.mul_comm u A]
      have h3 : h * (v * u) = h * (u * v) := by rw [Int.mul_comm v u]
      omega
    rw [e]
    exact Int.mul_nonpos_of_nonneg_of_nonpos (by omega) hc
  constructor
  · rintro ⟨h1, h2⟩
    have p1 : 0 < (lf w h a - lf w h b) * (c.1 - b.1) := Int.mul_pos (by omega) (by omega)
    have p2 : 0 ≤ (lf w h c - lf w h b) * (b.1 - a.1) := Int.mul_nonneg (by omega) (by omega)
    omega
  · rintro ⟨h1, h2⟩
    have p1 : 0 ≤ (lf w h a - lf w h b) * (c.1 - b.1) := Int.mul_nonneg (by omega) (by omega)
    have p2 : 0 < (lf w h c - lf w h b) * (b.1 - a.1) := Int.mul_pos (by omega) (by omega)
    omega
def LO (S T : PI → Prop) : Prop := ∀ w h l, 1 ≤ w → Lm S w h l → T l
def RO (S T : PI → Prop) : Prop := ∀ w h l, 1 ≤ w → Rm S w h l → T l
structure Hk (P t : List PI) : Prop where
  cv : Cv t
  sub : ∀ q ∈ t, q ∈ P
  bot : t.getLast? = P.head?
  top : t.head? = P.getLast?
  lo : LO (· ∈ P) (· ∈ t)
  ro : RO (· ∈ P) (· ∈ t)
theorem pop_ok {P : List PI} {c : PI} (hc : ∀ q ∈ P, q.1 < c.1) : ∀ (t : List PI), Cv t → (∀ q ∈ t, q ∈ P) → t ≠ [] → LO (· ∈ P ++ [c]) (· ∈ c :: t) → RO (· ∈ P ++ [c]) (· ∈ c :: t) →
    Cv (c :: popB t c) ∧ (∀ q ∈ popB t c, q ∈ P) ∧ popB t c ≠ [] ∧ (popB t c).getLast? = t.getLast? ∧ LO (· ∈ P ++ [c]) (· ∈ c :: popB t c) ∧ RO (· ∈ P ++ [c]) (· ∈ c :: popB t c)
  | [], _, _, h, _, _ => absurd rfl h
  | [b], hv, hs, _, l, r => ⟨hc b (hs b (List.mem_singleton.mpr rfl)), hs, by simp [popB], rfl, l, r⟩
  | b :: a :: r, hv, hs, _, l, ro => by
    by_cases hb : crs a b c ≤ 0
    · have e : popB (b :: a :: r) c = popB (a :: r) c := by rw [popB, if_pos hb]
      rw [e]
      have mb := hs b (by simp)
      have ma := hs a (by simp)
      have hbc := hc b mb
      have hab : a.1 < b.1 := by
        cases r with
        | nil => exact hv
        | cons z r => exact hv.2.1
      have no : ∀ (w h : Int) (x : PI), 1 ≤ w → x ∈ c :: b :: a :: r → x ≠ b → x ∈ c :: a :: r := fun w h x _ hx hn => by
        rcases List.mem_cons.mp hx with rfl | hx
        · exact List.mem_cons_self ..
        · rcases List.mem_cons.mp hx with rfl | hx
          · exact absurd rfl hn
          · exact List.mem_cons_of_mem _ hx
      have ih := pop_ok hc (a :: r) hv.tail (fun q hq => hs q (List.mem_cons_of_mem _ hq)) (by simp)
        (fun w h x hw hx => no w h x hw (l w h x hw hx) fun z => by
          subst z
          have h1 := hx.lo a (List.mem_append_left _ ma)
          have h2 := hx.lo c (by simp)
          refine (pop_w (h := h) hab hbc hw hb).1 ⟨?_, h2⟩
          have : lf w h a ≠ lf w h x := fun z => by have := hx.left a (List.mem_append_left _ ma) z; omega
          omega)
        (fun w h x hw hx => no w h x hw (ro w h x hw hx) fun z => by
          subst z
          have h1 := hx.lo a (List.mem_append_left _ ma)
          have h2 := hx.lo c (by simp)
          refine (pop_w (h := h) hab hbc hw hb).2 ⟨h1, ?_⟩
          have : lf w h c ≠ lf w h x := fun z => by have := hx.right c (by simp) z; omega
          omega)
      refine ⟨ih.1, ih.2.1, ih.2.2.1, ?_, ih.2.2.2.2⟩
      rw [ih.2.2.2.1]
      simp
    · have e : popB (b :: a :: r) c = b :: a :: r := by rw [popB, if_neg hb]
      rw [e]
      exact ⟨⟨by omega, hc b (hs b (by simp)), hv⟩, hs, by simp, rfl, l, ro⟩
theorem hk_step {P t : List PI} {c : PI} (h : Hk P t) (hne : P ≠ []) (hc : ∀ q ∈ P, q.1 < c.1) : Hk (P ++ [c]) (c :: popB t c) := by
  have tne : t ≠ [] := fun z => by
    have := h.bot
    rw [z] at this
    cases P with
    | nil => exact hne rfl
    | cons a r => cases this
  have one : ∀ w k x, Lm (· ∈ P ++ [c]) w k x → x ≠ c → Lm (· ∈ P) w k x := fun w k x hx hn => by
    have hm : x ∈ P := by
      rcases List.mem_append.mp hx.mem with hm | hm
      · exact hm
      · exact absurd (List.mem_singleton.mp hm) hn
    exact ⟨hm, fun q hq => hx.lo q (List.mem_append_left _ hq), fun q hq => hx.left q (List.mem_append_left _ hq)⟩
  have two : ∀ w k x, Rm (· ∈ P ++ [c]) w k x → x ≠ c → Rm (· ∈ P) w k x := fun w k x hx hn => by
    have hm : x ∈ P := by
      rcases List.mem_append.mp hx.mem with hm | hm
      · exact hm
      · exact absurd (List.mem_singleton.mp hm) hn
    exact ⟨hm, fun q hq => hx.lo q (List.mem_append_left _ hq), fun q hq => hx.right q (List.mem_append_left _ hq)⟩
  obtain ⟨p1, p2, p3, p4, p5, p6⟩ := pop_ok hc t h.cv h.sub tne
    (fun w k x hw hx => by
      by_cases e : x = c
      · rw [e]; exact List.mem_cons_self ..
      · exact List.mem_cons_of_mem _ (h.lo w k x hw (one w k x hx e)))
    (fun w k x hw hx => by
      by_cases e : x = c
      · rw [e]; exact List.mem_cons_self ..
      · exact List.mem_cons_of_mem _ (h.ro w k x hw (two w k x hx e)))
  refine ⟨p1, fun q hq => ?_, ?_, by simp, p5, p6⟩
  · rcases List.mem_cons.mp hq with rfl | hq
    · simp
    · exact List.mem_append_left _ (p2 q hq)
  · cases hp : popB t c with
    | nil => exact absurd hp p3
    | cons x r =>
      rw [List.getLast?_cons_cons, ← hp, p4, h.bot]
      cases P with
      | nil => exact absurd rfl hne
      | cons a r => rfl
theorem hk_one {c : PI} : Hk [c] [c] := ⟨trivial, fun q h => h, rfl, rfl, fun w h l _ x => x.mem, fun w h l _ x => x.mem⟩
theorem hstk_snoc {P : List PI} {c : PI} : hstk (P ++ [c]) = c :: popB (hstk P) c := by
  unfold hstk
  rw [List.foldl_append]; rfl
theorem hk_all : ∀ (n : Nat) (P : List PI), P.length = n + 1 → (P.Pairwise fun p q => p.1 < q.1) → Hk P (hstk P)
  | 0, P, hn, _ => by
    match P, hn with
    | [c], _ => exact hk_one
  | n + 1, P, hn, hp => by
    obtain ⟨Q, c, rfl⟩ : ∃ Q c, P = Q ++ [c] := ⟨P.dropLast, P.getLast (by intro z; rw [z] at hn; simp at hn), (List.dropLast_concat_getLast _).symm⟩
    rw [List.length_append] at hn
    have hn : Q.length = n + 1 := by simpa using hn
    rw [List.pairwise_append] at hp
    obtain ⟨h1, _, h3⟩ := hp
    rw [hstk_snoc]
    exact hk_step (hk_all n Q hn h1) (by intro z; rw [z] at hn; simp at hn) fun q hq => h3 q hq c (by simp)
theorem hk_of {P : List PI} (hne : P ≠ []) (hp : P.Pairwise fun p q => p.1 < q.1) : Hk P (hstk P) := by
  have := List.length_pos_iff.mpr hne
  exact hk_all (P.length - 1) P (by omega) hp
end Hd

namespace Hd
open PySem PySem.Spec Spl
def gd (s : PI) : Nat := Int.gcd s.1 s.2
def rd (s : PI) : PI := (s.1 / (gd s : Int), s.2 / (gd s : Int))
def expD (C : List PI) : List PI := (stp C).flatMap fun s => List.replicate (gd s) (rd s)
theorem stp_one {a : PI} : stp [a] = [] := rfl
theorem stp_cons {a b : PI} {r : List PI} : stp (a :: b :: r) = (b.1 - a.1, b.2 - a.2) :: stp (b :: r) := rfl
theorem expD_cons {a b : PI} {r : List PI} : expD (a :: b :: r) = List.replicate (gd (b.1 - a.1, b.2 - a.2)) (rd (b.1 - a.1, b.2 - a.2)) ++ expD (b :: r) := by
  unfold expD
  rw [stp_cons, List.flatMap_cons]
/-- how much a step raises -/
def inc_ (w h : Int) (s : PI) : Int := w * s.2 - h * s.1
theorem lf_step {w h : Int} {a b : PI} : lf w h b - lf w h a = inc_ w h (b.1 - a.1, b.2 - a.2) := by
  unfold lf inc_
  simp only [Int.mul_sub]
  omega
theorem gd_pos {s : PI} (h : 1 ≤ s.1) : 0 < gd s := by
  unfold gd
  have := Int.gcd_pos_of_ne_zero_left (a := s.1) s.2 (by omega)
  exact this
theorem rd_back {s : PI} : s.1 = (rd s).1 * (gd s : Int) ∧ s.2 = (rd s).2 * (gd s : Int) := by
  unfold rd gd
  exact ⟨(Int.ediv_mul_cancel (Int.gcd_dvd_left _ _)).symm, (Int.ediv_mul_cancel (Int.gcd_dvd_right _ _)).symm⟩
theorem rd_red {s : PI} (h : 1 ≤ s.1) : 1 ≤ (rd s).1 ∧ Int.gcd (rd s).1 (rd s).2 = 1 := by
  have hg := gd_pos h
  refine ⟨?_, Int.gcd_ediv_gcd_ediv_gcd hg⟩
  obtain ⟨e, _⟩ := rd_back (s := s)
  refine Classical.byContradiction fun hn => ?_
  have : (rd s).1 * (gd s : Int) ≤ 0 := Int.mul_nonpos_of_nonpos_of_nonneg (by omega) (by omega)
  omega
theorem inc_rd {w h : Int} {s : PI} (e : rd s = (w, h)) : inc_ w h s = 0 := by
  obtain ⟨e1, e2⟩ := rd_back (s := s)
  rw [e] at e1 e2
  unfold inc_
  rw [e1, e2]
  have : w * (h * (gd s : Int)) = h * (w * (gd s : Int)) := by rw [Int.mul_left_comm]
  simp only
  omega
theorem rd_inc {w h : Int} {s : PI} (hw : 1 ≤ w) (hg : Int.gcd w h = 1) (h1 : 1 ≤ s.1) (e : inc_ w h s = 0) : rd s = (w, h) ∧ s.1 = w * (gd s : Int) := by
  unfold inc_ at e
  have ew : w ∣ h * s.1 := ⟨s.2, by omega⟩
  have ew2 : w.natAbs ∣ h.natAbs * s.1.natAbs := by
    have := Int.natAbs_dvd_natAbs.mpr ew
    rwa [Int.natAbs_mul] at this
  have ew3 : w ∣ s.1 := Int.natAbs_dvd_natAbs.mp (Nat.Coprime.dvd_of_dvd_mul_left (show Nat.Coprime w.natAbs h.natAbs from hg) ew2)
  obtain ⟨k, hk⟩ := ew3
  have h2 : s.2 = h * k := by
    have : w * s.2 = w * (h * k) := by rw [Int.mul_left_comm, ← hk]; omega
    exact Int.eq_of_mul_eq_mul_left (by omega) this
  have kp : 0 < k := by
    refine Classical.byContradiction fun hn => ?_
    have : w * k ≤ 0 := Int.mul_nonpos_of_nonneg_of_nonpos (by omega) (by omega)
    omega
  have eg : (gd s : Int) = k := by
    unfold gd
    rw [hk, h2, Int.gcd_mul_right, hg, Nat.one_mul]
    omega
  refine ⟨?_, by rw [eg]; exact hk⟩
  unfold rd
  rw [eg, hk, h2, Int.mul_ediv_cancel _ (by omega), Int.mul_ediv_cancel _ (by omega)]
/-- a chain: slopes ascend -/
def Chn (C : List PI) : Prop := (∀ s ∈ stp C, 1 ≤ s.1) ∧ ∀ q ∈ prs (stp C), q.1.2 * q.2.1 < q.2.2 * q.1.1
theorem Chn.tail {a b : PI} {r : List PI} (h : Chn (a :: b :: r)) : Chn (b :: r) := by
  refine ⟨fun s hs => h.1 s (by rw [stp_cons]; exact List.mem_cons_of_mem _ hs), fun q hq => h.2 q ?_⟩
  rw [stp_cons]
  cases hst : stp (b :: r) with
  | nil => rw [hst] at hq; exact absurd hq (by simp [prs])
  | cons s t =>
    rw [hst] at hq
    show q ∈ (_, s) :: prs (s :: t)
    exact List.mem_cons_of_mem _ hq
theorem inc_next {w h : Int} {a b c : PI} {r : List PI} (hw : 1 ≤ w) (hc : Chn (a :: b :: c :: r)) (h0 : 0 ≤ inc_ w h (b.1 - a.1, b.2 - a.2)) : 0 < inc_ w h (c.1 - b.1, c.2 - b.2) := by
  have s1 := hc.1 (b.1 - a.1, b.2 - a.2) (by rw [stp_cons]; exact List.mem_cons_self ..)
  have s2 := hc.1 (c.1 - b.1, c.2 - b.2) (by rw [stp_cons, stp_cons]; simp)
  have k := hc.2 ((b.1 - a.1, b.2 - a.2), (c.1 - b.1, c.2 - b.2)) (by rw [stp_cons, stp_cons]; show _ ∈ (_, _) :: _; exact List.mem_cons_self ..)
  simp only at s1 s2 k
  unfold inc_ at h0 ⊢
  simp only at h0 ⊢
  generalize b.1 - a.1 = u at *
  generalize b.2 - a.2 = y at *
  generalize c.1 - b.1 = v at *
  generalize c.2 - b.2 = z at *
  -- X * u = w z u - h v u > w y v - h u v = (w y - h u) v ≥ 0
  have e1 : (w * z - h * v) * u = w * (z * u) - h * (v * u) := by rw [Int.sub_mul, Int.mul_assoc, Int.mul_assoc]
  have e2 : (w * y - h * u) * v = w * (y * v) - h * (v * u) := by rw [Int.sub_mul, Int.mul_assoc, Int.mul_assoc, Int.mul_comm u v]
  have p1 : 0 ≤ (w * y - h * u) * v := Int.mul_nonneg h0 (by omega)
  have p2 : w * (y * v) < w * (z * u) := Int.mul_lt_mul_of_pos_left k (by omega)
  have p3 : 0 < (w * z - h * v) * u := by omega
  refine Classical.byContradiction fun hn => ?_
  have : (w * z - h * v) * u ≤ 0 := Int.mul_nonpos_of_nonpos_of_nonneg (by omega) (by omega)
  omega
/-- from here on it rises -/
theorem rise {w h : Int} (hw : 1 ≤ w) : ∀ {r : List PI} {a b : PI}, Chn (a :: b :: r) → 0 < inc_ w h (b.1 - a.1, b.2 - a.2) →
    (∀ q ∈ b :: r, lf w h a < lf w h q ∧ a.1 < q.1) ∧ (∀ s ∈ stp (a :: b :: r), 0 < inc_ w h s) ∧ ∀ l, (a :: b :: r).getLast? = some l → ∀ q ∈ a :: b :: r, lf w h q ≤ lf w h l
  | [], a, b, hc, h0 => by
    have e := lf_step (w := w) (h := h) (a := a) (b := b)
    have s1 := hc.1 (b.1 - a.1, b.2 - a.2) (by rw [stp_cons]; exact List.mem_cons_self ..)
    simp only at s1
    refine ⟨fun q hq => ?_, fun s hs => ?_, fun l hl q hq => ?_⟩
    · rw [List.mem_singleton.mp hq]
      exact ⟨by omega, by omega⟩
    · rw [stp_cons, stp_one] at hs
      rw [List.mem_singleton.mp hs]; exact h0
    · have hl : l = b := by simpa using hl.symm
      subst hl
      simp only [List.mem_cons, List.not_mem_nil, or_false] at hq
      rcases hq with rfl | rfl <;> omega
  | c :: r, a, b, hc, h0 => by
    have e := lf_step (w := w) (h := h) (a := a) (b := b)
    have s1 := hc.1 (b.1 - a.1, b.2 - a.2) (by rw [stp_cons]; exact List.mem_cons_self ..)
    simp only at s1
    obtain ⟨i1, i2, i3⟩ := rise hw hc.tail (inc_next (h := h) hw hc (by omega))
    refine ⟨fun q hq => ?_, fun s hs => ?_, fun l hl q hq => ?_⟩
    · rcases List.mem_cons.mp hq with rfl | hq
      · exact ⟨by omega, by omega⟩
      · have := i1 q hq
        exact ⟨by omega, by omega⟩
    · rw [stp_cons] at hs
      rcases List.mem_cons.mp hs with rfl | hs
      · exact h0
      · exact i2 s hs
    · rw [List.getLast?_cons_cons] at hl
      rcases List.mem_cons.mp hq with rfl | hq
      · have := i3 l hl b (List.mem_cons_self ..)
        omega
      · exact i3 l hl q hq
theorem count_none {w h : Int} {C : List PI} (hs : ∀ s ∈ stp C, inc_ w h s ≠ 0) : (expD C).count (w, h) = 0 := by
  rw [List.count_eq_zero]
  intro hm
  unfold expD at hm
  obtain ⟨s, h1, h2⟩ := List.mem_flatMap.mp hm
  exact hs s h1 (inc_rd (List.eq_of_mem_replicate h2).symm)
theorem count_wid {w h : Int} (hw : 1 ≤ w) (hg : Int.gcd w h = 1) : ∀ {C : List PI} {l r : PI}, Chn C → Lm (· ∈ C) w h l → Rm (· ∈ C) w h r → r.1 - l.1 = w * ((expD C).count (w, h) : Nat)
  | [], l, r, _, hl, _ => absurd hl.mem List.not_mem_nil
  | [a], l, r, _, hl, hr => by
    have e1 := List.mem_singleton.mp hl.mem
    have e2 := List.mem_singleton.mp hr.mem
    rw [e1, e2]
    have : (expD [a]).count (w, h) = 0 := rfl
    rw [this]
    simp
  | a :: b :: t, l, r, hc, hl, hr => by
    have e := lf_step (w := w) (h := h) (a := a) (b := b)
    have s1 := hc.1 (b.1 - a.1, b.2 - a.2) (by rw [stp_cons]; exact List.mem_cons_self ..)
    rcases Int.lt_trichotomy (inc_ w h (b.1 - a.1, b.2 - a.2)) 0 with hD | hD | hD
    · -- falls
      have hba : lf w h b < lf w h a := by omega
      have hla : l ≠ a := fun z => by have := hl.lo b (by simp); rw [z] at this; omega
      have hra : r ≠ a := fun z => by have := hr.lo b (by simp); rw [z] at this; omega
      have ml : l ∈ b :: t := by
        rcases List.mem_cons.mp hl.mem with z | z
        · exact absurd z hla
        · exact z
      have mr : r ∈ b :: t := by
        rcases List.mem_cons.mp hr.mem with z | z
        · exact absurd z hra
        · exact z
      have ih := count_wid hw hg (C := b :: t) (l := l) (r := r) hc.tail ⟨ml, fun q hq => hl.lo q (List.mem_cons_of_mem _ hq), fun q hq => hl.left q (List.mem_cons_of_mem _ hq)⟩ ⟨mr, fun q hq => hr.lo q (List.mem_cons_of_mem _ hq), fun q hq => hr.right q (List.mem_cons_of_mem _ hq)⟩
      rw [ih, expD_cons, List.count_append, List.count_replicate]
      have : ¬ (rd (b.1 - a.1, b.2 - a.2) == (w, h)) = true := fun z => by
        have := inc_rd (eq_of_beq z)
        omega
      rw [if_neg this, Nat.zero_add]
    · -- level
      have hba : lf w h b = lf w h a := by omega
      have later : (∀ q ∈ t, lf w h b < lf w h q ∧ b.1 < q.1) ∧ ∀ s ∈ stp (b :: t), inc_ w h s ≠ 0 := by
        cases t with
        | nil => exact ⟨fun q hq => absurd hq List.not_mem_nil, fun s hs => absurd hs List.not_mem_nil⟩
        | cons c t =>
          obtain ⟨i1, i2, _⟩ := rise hw hc.tail (inc_next (h := h) hw hc (by omega))
          exact ⟨i1, fun s hs => by have := i2 s hs; omega⟩
      have el : l = a := by
        have h1 := hl.lo a (by simp)
        rcases List.mem_cons.mp hl.mem with z | z
        · exact z
        · rcases List.mem_cons.mp z with z | z
          · have := hl.left a (by simp) (by rw [z]; omega)
            rw [z] at this
            simp only at s1; omega
          · have := later.1 l z
            omega
      have er : r = b := by
        have h1 := hr.lo b (by simp)
        rcases List.mem_cons.mp hr.mem with z | z
        · have := hr.right b (by simp) (by rw [z]; omega)
          rw [z] at this
          simp only at s1; omega
        · rcases List.mem_cons.mp z with z | z
          · exact z
          · have := later.1 r z
            omega
      obtain ⟨r1, r2⟩ := rd_inc hw hg s1 hD
      rw [el, er, expD_cons, List.count_append, r1, List.count_replicate_self, count_none later.2]
      exact r2
    · -- rises
      obtain ⟨i1, i2, _⟩ := rise hw hc hD
      have el : l = a := by
        rcases List.mem_cons.mp hl.mem with z | z
        · exact z
        · have := i1 l z; have := hl.lo a (by simp); omega
      have er : r = a := by
        rcases List.mem_cons.mp hr.mem with z | z
        · exact z
        · have := i1 r z; have := hr.lo a (by simp); omega
      rw [el, er, count_none fun s hs => by have := i2 s hs; omega]
      simp
/-- heights lie below the ends -/
theorem high {C : List PI} : ∀ {a l : PI}, C.head? = some a → C.getLast? = some l → Chn C → ∀ q ∈ C, q.2 ≤ a.2 ∨ q.2 ≤ l.2 := by
  induction C with
  | nil => intro a l h; cases h
  | cons x C ih =>
    intro a l ha hl hc q hq
    cases ha
    cases C with
    | nil => rw [List.mem_singleton.mp hq]; exact .inl (Int.le_refl _)
    | cons b t =>
      by_cases hD : 0 < inc_ 1 0 (b.1 - x.1, b.2 - x.2)
      · have := (rise (by decide) hc hD).2.2 l hl q hq
        unfold lf at this
        right; omega
      · rcases List.mem_cons.mp hq with rfl | hq
        · exact .inl (Int.le_refl _)
        · rw [List.getLast?_cons_cons] at hl
          have := ih (a := b) rfl hl hc.tail q hq
          unfold inc_ at hD
          simp only at hD
          rcases this with h | h
          · left; omega
          · exact .inr h
theorem Hk.chn {P t : List PI} (h : Hk P t) : Chn t.reverse := h.cv.val
end Hd

namespace Hd
open PySem PySem.Spec Spl
def ixs (f : List Int) : List Nat := (List.range f.length).filter fun i => decide (cf f i ≠ 0)
noncomputable def ptsL (p : Int) (f : List Int) : List PI := (ixs f).map fun i : Nat => ((i : Int), (hv p (cf f i) : Int))
theorem ixs_mem {f : List Int} {i : Nat} : i ∈ ixs f ↔ cf f i ≠ 0 := by
  unfold ixs
  rw [List.mem_filter, List.mem_range, decide_eq_true_eq]
  exact ⟨fun h => h.2, fun h => ⟨cf_lt h, h⟩⟩
theorem pts_mem {p : Int} {f : List Int} (h2 : 2 ≤ p) {q : PI} : q ∈ ptsL p f ↔ Pt p (cf f) q := by
  unfold ptsL
  rw [List.mem_map]
  constructor
  · rintro ⟨i, hi, rfl⟩
    exact ⟨i, _, rfl, hv_ok h2 (ixs_mem.mp hi)⟩
  · rintro ⟨i, e, rfl, hv'⟩
    exact ⟨i, ixs_mem.mpr hv'.ne, by rw [hv_eq h2 hv']⟩
theorem ixs_inc {f : List Int} : (ixs f).Pairwise (· < ·) := List.pairwise_lt_range.filter _
theorem pts_inc {p : Int} {f : List Int} : (ptsL p f).Pairwise fun q r => q.1 < r.1 := by
  unfold ptsL
  rw [List.pairwise_map]
  exact ixs_inc.imp fun h => Int.ofNat_lt.mpr h
noncomputable def lea (p : Int) (f : List Int) : Int := match ptsL p f with
  | [] => 0
  | q :: r => minI q.2 (r.map fun x => x.2)
theorem lea_le {p : Int} {f : List Int} {q : PI} (h : q ∈ ptsL p f) : lea p f ≤ q.2 := by
  unfold lea
  cases e : ptsL p f with
  | nil => rw [e] at h; cases h
  | cons x r =>
    rw [e] at h
    rcases List.mem_cons.mp h with rfl | h
    · exact (minI_le _ _).1
    · exact (minI_le _ _).2 _ (List.mem_map.mpr ⟨q, h, rfl⟩)
theorem lea_min {p : Int} {f : List Int} (h : ptsL p f ≠ []) : minD (.lst ((ptsL p f).map fun q => .int q.2)) = some (.val (.int (lea p f))) := by
  unfold lea
  cases e : ptsL p f with
  | nil => exact absurd e h
  | cons x r =>
    show (D.intsOf ((x :: r).map fun q => .int q.2)).bind _ = _
    rw [intsOf_map]; rfl
def shm (m : Int) (q : PI) : PI := (q.1, q.2 - m)
noncomputable def shP (p : Int) (f : List Int) : List PI := (ptsL p f).map (shm (lea p f))
noncomputable def tl (p : Int) (f : List Int) : List PI := hull (shP p f)
theorem sh_inc {p : Int} {f : List Int} : (shP p f).Pairwise fun q r => q.1 < r.1 := by
  unfold shP
  rw [List.pairwise_map]
  exact pts_inc
def nz (f : List Int) : Prop := ∃ i, cf f i ≠ 0
theorem pts_ne {p : Int} {f : List Int} (h : nz f) : ptsL p f ≠ [] := fun e => by
  obtain ⟨i, hi⟩ := h
  have : ((i : Int), (hv p (cf f i) : Int)) ∈ ptsL p f := List.mem_map.mpr ⟨i, ixs_mem.mpr hi, rfl⟩
  rw [e] at this; cases this
theorem tl_hk {p : Int} {f : List Int} (h : nz f) : Hk (shP p f) (hstk (shP p f)) := hk_of (by unfold shP; rw [Ne, List.map_eq_nil_iff]; exact pts_ne h) sh_inc
theorem tl_chn {p : Int} {f : List Int} (h : nz f) : Chn (tl p f) := (tl_hk h).chn
theorem tl_sub {p : Int} {f : List Int} (h : nz f) {q : PI} (hq : q ∈ tl p f) : ∃ x ∈ ptsL p f, q = shm (lea p f) x := by
  have := (tl_hk (p := p) h).sub q (List.mem_reverse.mp hq)
  obtain ⟨x, hx, e⟩ := List.mem_map.mp this
  exact ⟨x, hx, e.symm⟩
theorem lf_sh {w h m : Int} {q : PI} : lf w h (shm m q) = lf w h q - w * m := by
  unfold lf shm
  simp only [Int.mul_sub]
  omega
theorem tl_L {p w h : Int} {f : List Int} (h2 : 2 ≤ p) (hf : nz f) (hw : 1 ≤ w) {l : PI} (L : Lm (Pt p (cf f)) w h l) : Lm (· ∈ tl p f) w h (shm (lea p f) l) := by
  have a : Lm (· ∈ shP p f) w h (shm (lea p f) l) := by
    refine ⟨List.mem_map.mpr ⟨l, (pts_mem h2).mpr L.mem, rfl⟩, fun q hq => ?_, fun q hq he => ?_⟩
    · obtain ⟨x, hx, rfl⟩ := List.mem_map.mp hq
      have := L.lo x ((pts_mem h2).mp hx)
      rw [lf_sh, lf_sh]; omega
    · obtain ⟨x, hx, rfl⟩ := List.mem_map.mp hq
      rw [lf_sh, lf_sh] at he
      exact L.left x ((pts_mem h2).mp hx) (by omega)
  have hk := tl_hk (p := p) hf
  exact ⟨List.mem_reverse.mpr (hk.lo w h _ hw a), fun q hq => a.lo q (hk.sub q (List.mem_reverse.mp hq)), fun q hq => a.left q (hk.sub q (List.mem_reverse.mp hq))⟩
theorem tl_R {p w h : Int} {f : List Int} (h2 : 2 ≤ p) (hf : nz f) (hw : 1 ≤ w) {l : PI} (L : Rm (Pt p (cf f)) w h l) : Rm (· ∈ tl p f) w h (shm (lea p f) l) := by
  have a : Rm (· ∈ shP p f) w h (shm (lea p f) l) := by
    refine ⟨List.mem_map.mpr ⟨l, (pts_mem h2).mpr L.mem, rfl⟩, fun q hq => ?_, fun q hq he => ?_⟩
    · obtain ⟨x, hx, rfl⟩ := List.mem_map.mp hq
      have := L.lo x ((pts_mem h2).mp hx)
      rw [lf_sh, lf_sh]; omega
    · obtain ⟨x, hx, rfl⟩ := List.mem_map.mp hq
      rw [lf_sh, lf_sh] at he
      exact L.right x ((pts_mem h2).mp hx) (by omega)
  have hk := tl_hk (p := p) hf
  exact ⟨List.mem_reverse.mpr (hk.ro w h _ hw a), fun q hq => a.lo q (hk.sub q (List.mem_reverse.mp hq)), fun q hq => a.right q (hk.sub q (List.mem_reverse.mp hq))⟩
theorem ex_L {w h : Int} : ∀ {R : List PI}, R ≠ [] → ∃ l, Lm (· ∈ R) w h l
  | [], hn => absurd rfl hn
  | [a], _ => ⟨a, List.mem_singleton.mpr rfl, fun q hq => by rw [List.mem_singleton.mp hq]; exact Int.le_refl _, fun q hq _ => by rw [List.mem_singleton.mp hq]; exact Int.le_refl _⟩
  | a :: b :: r, _ => by
    obtain ⟨l, hl⟩ := ex_L (w := w) (h := h) (R := b :: r) (by simp)
    by_cases h1 : lf w h a < lf w h l ∨ (lf w h a = lf w h l ∧ a.1 ≤ l.1)
    · refine ⟨a, List.mem_cons_self .., fun q hq => ?_, fun q hq he => ?_⟩
      · rcases List.mem_cons.mp hq with rfl | hq
        · exact Int.le_refl _
        · have := hl.lo q hq; omega
      · rcases List.mem_cons.mp hq with rfl | hq
        · exact Int.le_refl _
        · have h3 := hl.lo q hq
          have h4 := hl.left q hq
          have : lf w h q = lf w h l := by omega
          have := h4 this
          omega
    · refine ⟨l, List.mem_cons_of_mem _ hl.mem, fun q hq => ?_, fun q hq he => ?_⟩
      · rcases List.mem_cons.mp hq with rfl | hq
        · omega
        · exact hl.lo q hq
      · rcases List.mem_cons.mp hq with rfl | hq
        · omega
        · exact hl.left q hq he
theorem ex_R {w h : Int} : ∀ {R : List PI}, R ≠ [] → ∃ l, Rm (· ∈ R) w h l
  | [], hn => absurd rfl hn
  | [a], _ => ⟨a, List.mem_singleton.mpr rfl, fun q hq => by rw [List.mem_singleton.mp hq]; exact Int.le_refl _, fun q hq _ => by rw [List.mem_singleton.mp hq]; exact Int.le_refl _⟩
  | a :: b :: r, _ => by
    obtain ⟨l, hl⟩ := ex_R (w := w) (h := h) (R := b :: r) (by simp)
    by_cases h1 : lf w h a < lf w h l ∨ (lf w h a = lf w h l ∧ l.1 ≤ a.1)
    · refine ⟨a, List.mem_cons_self .., fun q hq => ?_, fun q hq he => ?_⟩
      · rcases List.mem_cons.mp hq with rfl | hq
        · exact Int.le_refl _
        · have := hl.lo q hq; omega
      · rcases List.mem_cons.mp hq with rfl | hq
        · exact Int.le_refl _
        · have h3 := hl.lo q hq
          have h4 := hl.right q hq
          have : lf w h q = lf w h l := by omega
          have := h4 this
          omega
    · refine ⟨l, List.mem_cons_of_mem _ hl.mem, fun q hq => ?_, fun q hq he => ?_⟩
      · rcases List.mem_cons.mp hq with rfl | hq
        · omega
        · exact hl.lo q hq
      · rcases List.mem_cons.mp hq with rfl | hq
        · omega
        · exact hl.right q hq he
theorem pt_L {p w h : Int} {f : List Int} (h2 : 2 ≤ p) (hf : nz f) : ∃ l, Lm (Pt p (cf f)) w h l := by
  obtain ⟨l, hl⟩ := ex_L (w := w) (h := h) (pts_ne (p := p) hf)
  exact ⟨l, (pts_mem h2).mp hl.mem, fun q hq => hl.lo q ((pts_mem h2).mpr hq), fun q hq => hl.left q ((pts_mem h2).mpr hq)⟩
theorem pt_R {p w h : Int} {f : List Int} (h2 : 2 ≤ p) (hf : nz f) : ∃ l, Rm (Pt p (cf f)) w h l := by
  obtain ⟨l, hl⟩ := ex_R (w := w) (h := h) (pts_ne (p := p) hf)
  exact ⟨l, (pts_mem h2).mp hl.mem, fun q hq => hl.lo q ((pts_mem h2).mpr hq), fun q hq => hl.right q ((pts_mem h2).mpr hq)⟩
theorem tl_count {p w h : Int} {f : List Int} (h2 : 2 ≤ p) (hf : nz f) (hw : 1 ≤ w) (hg : Int.gcd w h = 1) {l r : PI} (L : Lm (Pt p (cf f)) w h l) (R : Rm (Pt p (cf f)) w h r) : r.1 - l.1 = w * ((expD (tl p f)).count (w, h) : Nat) := by
  have := count_wid hw hg (tl_chn hf) (tl_L h2 hf hw L) (tl_R h2 hf hw R)
  exact this
theorem cf_prod {f g : List Int} (hf : f ≠ []) (hg : g ≠ []) (k : Nat) : cf (prodC f g) k = pc f g k := by
  have h1 := List.length_pos_iff.mpr hf
  have h2 := List.length_pos_iff.mpr hg
  unfold cf prodC
  rw [List.getElem?_map]
  by_cases hk : k < f.length + g.length - 1
  · rw [List.getElem?_range hk]; rfl
  · rw [List.getElem?_eq_none (by simp; omega)]
    show (0 : Int) = pc f g k
    unfold pc
    have : ((List.range f.length).map (pterm f g k)) = (List.range f.length).map fun _ => 0 := List.map_congr_left fun i hi => by
      have hi := List.mem_range.mp hi
      unfold pterm
      by_cases hik : i ≤ k
      · rw [if_pos hik]
        have : cf g (k - i) = 0 := by unfold cf; rw [List.getElem?_eq_none (by omega)]; rfl
        rw [this, Int.mul_zero]
      · rw [if_neg hik]
    rw [this]
    generalize f.length = n
    induction n with
    | zero => rfl
    | succ n ih => rw [List.range_succ, List.map_append, List.sum_append, ← ih]; rfl
theorem nz_ne {f : List Int} (h : nz f) : f ≠ [] := fun e => by
  obtain ⟨i, hi⟩ := h
  rw [e] at hi
  exact hi rfl
theorem expD_red {C : List PI} (hc : Chn C) {d : PI} (h : d ∈ expD C) : 1 ≤ d.1 ∧ Int.gcd d.1 d.2 = 1 := by
  unfold expD at h
  obtain ⟨s, h1, h2⟩ := List.mem_flatMap.mp h
  rw [List.eq_of_mem_replicate h2]
  exact rd_red (hc.1 s h1)
theorem pt_eq {p : Int} {F G : Nat → Int} (h : ∀ k, F k = G k) : F = G := funext h
theorem nz_prod {p : Int} (P : Prm p) {f g : List Int} (hf : nz f) (hg : nz g) : nz (prodC f g) := by
  obtain ⟨l1, L1⟩ := pt_L (w := 1) (h := 0) P.two hf
  obtain ⟨l2, L2⟩ := pt_L (w := 1) (h := 0) P.two hg
  have L := conv_L P (by decide) L1 L2
  obtain ⟨k, e, _, hv'⟩ := L.mem
  exact ⟨k, by rw [cf_prod (nz_ne hf) (nz_ne hg)]; exact hv'.ne⟩
theorem dumas {p : Int} (P : Prm p) {f g : List Int} (hf : nz f) (hg : nz g) : (expD (tl p (prodC f g))).Perm (expD (tl p f) ++ expD (tl p g)) := by
  have hF := nz_prod P hf hg
  rw [List.perm_iff_count]
  rintro ⟨w, h⟩
  rw [List.count_append]
  by_cases hr : 1 ≤ w ∧ Int.gcd w h = 1
  · obtain ⟨hw, hgc⟩ := hr
    obtain ⟨l1, L1⟩ := pt_L (w := w) (h := h) P.two hf
    obtain ⟨l2, L2⟩ := pt_L (w := w) (h := h) P.two hg
    obtain ⟨r1, R1⟩ := pt_R (w := w) (h := h) P.two hf
    obtain ⟨r2, R2⟩ := pt_R (w := w) (h := h) P.two hg
    have L := conv_L P hw L1 L2
    have R := conv_R P hw R1 R2
    rw [← pt_eq (p := p) (cf_prod (nz_ne hf) (nz_ne hg))] at L R
    have c1 := tl_count P.two hf hw hgc L1 R1
    have c2 := tl_count P.two hg hw hgc L2 R2
    have c3 := tl_count P.two hF hw hgc L R
    simp only at c3
    have e : w * ((expD (tl p (prodC f g))).count (w, h) : Int) = w * (((expD (tl p f)).count (w, h) + (expD (tl p g)).count (w, h) : Nat) : Int) := by
      rw [← c3, Int.natCast_add, Int.mul_add, ← c1, ← c2]; omega
    have := Int.eq_of_mul_eq_mul_left (by omega) e
    omega
  · have no : ∀ {C : List PI}, Chn C → C.length = C.length → (expD C).count (w, h) = 0 := fun hc _ => by
      rw [List.count_eq_zero]
      intro hm
      exact hr (expD_red hc hm)
    rw [no (tl_chn hF) rfl, no (tl_chn hf) rfl, no (tl_chn hg) rfl]
/-! degrees -/
def sx1 (X : List PI) : Int := (X.map fun q => q.1).sum
theorem sx1_app {X Y : List PI} : sx1 (X ++ Y) = sx1 X + sx1 Y := by unfold sx1; rw [List.map_append, List.sum_append]
theorem sx1_split {d : PI} : ∀ {X : List PI}, sx1 X = (X.count d : Nat) * d.1 + sx1 (X.filter fun q => decide (q ≠ d))
  | [] => by simp [sx1]
  | x :: X => by
    have ih := sx1_split (d := d) (X := X)
    by_cases e : x = d
    · subst e
      rw [List.count_cons_self, List.filter_cons_of_neg (by simp)]
      have : sx1 (x :: X) = x.1 + sx1 X := rfl
      rw [this, ih, Int.natCast_add, Int.add_mul]
      simp only [Int.natCast_one, Int.one_mul]
      omega
    · rw [List.count_cons_of_ne (fun z => e z), List.filter_cons_of_pos (by simpa using e)]
      have h1 : sx1 (x :: X) = x.1 + sx1 X := rfl
      have h3 : ∀ Z : List PI, sx1 (x :: Z) = x.1 + sx1 Z := fun _ => rfl
      rw [h1, h3, ih]
      omega
theorem sms_chn : ∀ {C : List PI}, Chn C → ∀ {X Y : List PI} {A : Int → Prop} {a : Int}, (expD C).Perm (X ++ Y) → A a → SmS (rgs C) A (a + sx1 X)
  | [], _, X, Y, A, a, hp, ha => by
    have : X = [] := (List.append_eq_nil_iff.mp (List.nil_perm.mp hp)).1
    subst this
    show A (a + 0)
    rwa [Int.add_zero]
  | [c], _, X, Y, A, a, hp, ha => by
    have : X = [] := (List.append_eq_nil_iff.mp (List.nil_perm.mp hp)).1
    subst this
    show A (a + 0)
    rwa [Int.add_zero]
  | b0 :: b :: t, hc, X, Y, A, a, hp, ha => by
    have s1 := hc.1 (b.1 - b0.1, b.2 - b0.2) (by rw [stp_cons]; exact List.mem_cons_self ..)
    rw [expD_cons] at hp
    have er : rgs (b0 :: b :: t) = rg (b.1 - b0.1, b.2 - b0.2) :: rgs (b :: t) := by unfold rgs; rw [stp_cons, List.map_cons]
    have hnext : ∀ s ∈ stp (b :: t), rd s ≠ rd (b.1 - b0.1, b.2 - b0.2) := by
      intro s hs e
      have hw : 1 ≤ (rd (b.1 - b0.1, b.2 - b0.2)).1 := (rd_red s1).1
      have z0 : inc_ (rd (b.1 - b0.1, b.2 - b0.2)).1 (rd (b.1 - b0.1, b.2 - b0.2)).2 (b.1 - b0.1, b.2 - b0.2) = 0 := inc_rd rfl
      have z1 : inc_ (rd (b.1 - b0.1, b.2 - b0.2)).1 (rd (b.1 - b0.1, b.2 - b0.2)).2 s = 0 := inc_rd e
      cases t with
      | nil => exact absurd hs List.not_mem_nil
      | cons c t =>
        obtain ⟨_, i2, _⟩ := rise hw hc.tail (inc_next (h := (rd (b.1 - b0.1, b.2 - b0.2)).2) hw hc (by omega))
        have := i2 s hs
        omega
    generalize hs : (b.1 - b0.1, b.2 - b0.2) = s at *
    have hnot : rd s ∉ expD (b :: t) := fun hm => by
      unfold expD at hm
      obtain ⟨s', h1, h2⟩ := List.mem_flatMap.mp hm
      exact hnext s' h1 (List.eq_of_mem_replicate h2).symm
    have hcount := List.perm_iff_count.mp hp (rd s)
    rw [List.count_append, List.count_append, List.count_replicate_self, List.count_eq_zero.mpr hnot] at hcount
    have hf := hp.filter fun q => decide (q ≠ rd s)
    rw [List.filter_append, List.filter_append] at hf
    have f1 : (List.replicate (gd s) (rd s)).filter (fun q => decide (q ≠ rd s)) = [] := by
      rw [List.filter_eq_nil_iff]
      intro x hx
      rw [List.eq_of_mem_replicate hx]
      simp
    have f2 : (expD (b :: t)).filter (fun q => decide (q ≠ rd s)) = expD (b :: t) := by
      rw [List.filter_eq_self]
      intro x hx
      exact decide_eq_true fun z => hnot (z ▸ hx)
    rw [f1, f2, List.nil_append] at hf
    rw [er, sx1_split (d := rd s)]
    show SmS (rgs (b :: t)) (stepS (rg s).1 (rg s).2 A) _
    have := sms_chn hc.tail (A := stepS (rg s).1 (rg s).2 A) (a := a + (X.count (rd s) : Nat) * (rd s).1) hf ⟨a, ha, (X.count (rd s) : Nat), by omega, by
      show ((X.count (rd s) : Nat) : Int) ≤ ((gd s : Nat) : Int)
      omega, rfl⟩
    rwa [Int.add_assoc] at this
theorem sx1_expD : ∀ {C : List PI} {a l : PI}, C.head? = some a → C.getLast? = some l → sx1 (expD C) = l.1 - a.1
  | [], a, l, h, _ => by cases h
  | [c], a, l, h1, h2 => by
    cases h1
    have : l = c := by simpa using h2.symm
    subst this
    show (0 : Int) = _
    omega
  | c :: b :: t, a, l, h1, h2 => by
    cases h1
    rw [List.getLast?_cons_cons] at h2
    rw [expD_cons, sx1_app, sx1_expD (C := b :: t) rfl h2]
    have e : sx1 (List.replicate (gd (b.1 - c.1, b.2 - c.2)) (rd (b.1 - c.1, b.2 - c.2))) = (rd (b.1 - c.1, b.2 - c.2)).1 * (gd (b.1 - c.1, b.2 - c.2) : Nat) := by
      generalize rd (b.1 - c.1, b.2 - c.2) = d
      generalize gd (b.1 - c.1, b.2 - c.2) = n
      induction n with
      | zero => simp [sx1]
      | succ n ih =>
        have : sx1 (List.replicate (n + 1) d) = d.1 + sx1 (List.replicate n d) := rfl
        rw [this, ih, Int.natCast_add, Int.mul_add]
        simp only [Int.natCast_one, Int.mul_one]
        omega
    rw [e, ← (rd_back (s := (b.1 - c.1, b.2 - c.2))).1]
    simp only
    omega
/-- all rungs of a ladder, each by itself -/
def expW (L : List PI) : List Int := (rgs L).flatMap fun q => List.replicate q.2.toNat q.1
theorem expW_D {L : List PI} : expW L = (expD L).map fun q => q.1 := by
  unfold expW expD rgs
  rw [List.flatMap_map, List.map_flatMap]
  congr 1
  funext s
  rw [List.map_replicate]
  rfl
end Hd

namespace Hd
open PySem PySem.Spec Spl
def isPr (p : Int) : Bool := ((List.range 30).filter fun i : Nat => decide (2 + (i : Int) < p)).all fun i : Nat => decide (0 < p % (2 + (i : Int)))
structure Okp (p : Int) : Prop where
  prm : Prm p
  top : p ≤ 997
  chk : isPr p = true
theorem Okp.two {p : Int} (h : Okp p) : 2 ≤ p := h.prm.two
def PS : List Nat := [2, 3, 5, 7, 11, 13, 997]
theorem okp_of {p : Nat} (h : p ∈ PS) : Okp (p : Int) := by
  have a : ∀ p ∈ PS, 2 ≤ p ∧ p ≤ 997 ∧ ∀ d ∈ List.range p, d ∣ p → d = 1 := by decide +kernel
  have b : ∀ p ∈ PS, isPr (p : Int) = true := by decide +kernel
  obtain ⟨h1, h2, h3⟩ := a p h
  exact ⟨Prm.of h1 h3, by omega, b p h⟩
theorem log997 {p : Int} (h : 2 ≤ p) (h2 : p ≤ 997) : p.natAbs.log2 < 9000 := Nat.lt_of_le_of_lt (Nat.log2_le_self _) (by omega)
theorem p_is_prime {p : Int} (h : Okp p) : Fun F_is_prime [.int p] (.bl true) := by
  refine Fun.of rfl ?_
  have h1 := h.two
  have h2 := h.top
  have i1 : inR 2 := inR_small (by omega) (by omega)
  have i2 : inR 32 := inR_small (by omega) (by omega)
  simp [b_is_prime, List.replicate, (p_is_between _ _ _).a3, h1, h2]
  refine Ok_lcFilt (List.range 30) (fun i => .int (2 + (i : Int))) (fun i => .bl (decide (0 < p % (2 + (i : Int))))) (fun i => decide (2 + (i : Int) < p)) ?_
  have eu : upto 2 30 = (List.range 30).map fun i : Nat => D.int (2 + (i : Int)) := rfl
  have hs : (30 : Nat) ≤ sizeLine := by decide
  have am := all_map ((List.range 30).filter fun i : Nat => decide (2 + (i : Int) < p)) (f := fun i : Nat => decide (0 < p % (2 + (i : Int))))
  have ck : (((List.range 30).filter fun i : Nat => decide (2 + (i : Int) < p)).all fun i : Nat => decide (0 < p % (2 + (i : Int)))) = true := h.chk
  rw [ck] at am
  simp [i1, i2, eu, hs, vsOk, isDat, wipeR, restR, am]
  intro x hx
  have : (0 : Int) < 2 + (x : Int) := by omega
  simp [this]
theorem step_div {p n : Int} (h2 : 2 ≤ p) (hn : n ≠ 0) (h0 : n % p = 0) : n = p * (n / p) ∧ n / p ≠ 0 ∧ (n / p).natAbs < n.natAbs := by
  have e : n = p * (n / p) := (Int.mul_ediv_cancel' (Int.dvd_of_emod_eq_zero h0)).symm
  have hne : n / p ≠ 0 := fun z => hn (by rw [e, z, Int.mul_zero])
  refine ⟨e, hne, ?_⟩
  have : n.natAbs = p.natAbs * (n / p).natAbs := by rw [← Int.natAbs_mul, ← e]
  rw [this]
  have h1 : 2 ≤ p.natAbs := by omega
  have h3 : 0 < (n / p).natAbs := by omega
  have := Nat.mul_le_mul h1 (Nat.le_refl (n / p).natAbs)
  omega
theorem p_height {p n : Int} (h2 : 2 ≤ p) (h9 : p ≤ 997) (hn : n ≠ 0) : Fun F_height_of [.int n, .int p] (.int (hv p n)) := by
  refine Fun.of rfl ?_
  have hp : 0 < p := by omega
  have hl := log997 h2 h9
  simp [b_height_of, List.replicate]
  refine Ok_while' (fun m ρ => ∃ (n' : Int) (k : Nat), ρ = [some (.dat (.int n')), some (.dat (.int p)), some (.dat (.int (k : Int)))] ∧ n'.natAbs = m ∧ n' ≠ 0 ∧ n = p ^ k * n') (fun ρ => ∃ (n' : Int) (k : Nat), ρ = [some (.dat (.int n')), some (.dat (.int p)), some (.dat (.int (k : Int)))] ∧ n = p ^ k * n' ∧ ¬ p ∣ n') ?_ ?_ n.natAbs _ ⟨n, 0, rfl, rfl, hn, by rw [Int.pow_zero, Int.one_mul]⟩
  · rintro m ρ ⟨n', k, rfl, rfl, hn', e⟩
    by_cases h0 : n' % p = 0
    · obtain ⟨e1, e2, e3⟩ := step_div h2 hn' h0
      simp [hp, hl, h0]
      refine ⟨(n' / p).natAbs, e3, n' / p, k + 1, ⟨rfl, by omega⟩, rfl, e2, ?_⟩
      rw [e, Int.pow_succ, Int.mul_assoc, ← e1]
    · simp [hp, h0]
      exact ⟨n', k, ⟨rfl, rfl⟩, e, fun hd => h0 (Int.emod_eq_zero_of_dvd hd)⟩
  · rintro ρ ⟨n', k, rfl, e, hd⟩
    simp [hv_eq h2 (Vp.of h2 e hd)]
theorem p_power {p n : Int} (h2 : 2 ≤ p) (h9 : p ≤ 997) (hn : n ≠ 0) : Fun F__law_power [.int n, .int p] (.int (hv p n)) := by
  refine Fun.of rfl ?_
  have hp : 0 < p := by omega
  have hl := log997 h2 h9
  simp [b__law_power, List.replicate]
  refine Ok_while' (fun m ρ => ∃ (n' : Int) (k : Nat), ρ = [some (.dat (.int n')), some (.dat (.int p)), some (.dat (.int (k : Int)))] ∧ n'.natAbs = m ∧ n' ≠ 0 ∧ n = p ^ k * n') (fun ρ => ∃ (n' : Int) (k : Nat), ρ = [some (.dat (.int n')), some (.dat (.int p)), some (.dat (.int (k : Int)))] ∧ n = p ^ k * n' ∧ ¬ p ∣ n') ?_ ?_ n.natAbs _ ⟨n, 0, rfl, rfl, hn, by rw [Int.pow_zero, Int.one_mul]⟩
  · rintro m ρ ⟨n', k, rfl, rfl, hn', e⟩
    by_cases h0 : n' % p = 0
    · obtain ⟨e1, e2, e3⟩ := step_div h2 hn' h0
      simp [hp, hl, h0]
      refine ⟨(n' / p).natAbs, e3, n' / p, k + 1, ⟨rfl, by omega⟩, rfl, e2, ?_⟩
      rw [e, Int.pow_succ, Int.mul_assoc, ← e1]
    · simp [hp, h0]
      exact ⟨n', k, ⟨rfl, rfl⟩, e, fun hd => h0 (Int.emod_eq_zero_of_dvd hd)⟩
  · rintro ρ ⟨n', k, rfl, e, hd⟩
    simp [hv_eq h2 (Vp.of h2 e hd)]
def rowT (f : List Int) : D := .tup (f.map D.int)
/-- a row of coefficients -/
structure Rw (least : Nat) (f : List Int) : Prop where
  len : least ≤ f.length
  one : 1 ≤ f.length
  sz : f.length ≤ 501
  fst : cf f 0 ≠ 0
  lst : cf f (f.length - 1) ≠ 0
theorem cf_at {f : List Int} {i : Nat} (h : i < f.length) : f[i]? = some (cf f i) := by
  unfold cf
  rw [List.getElem?_eq_getElem h]; rfl
theorem p_check_row {f : List Int} {l : Nat} (h : Rw l f) : Fun F_check_row [rowT f, .int (l : Int)] .non := by
  refine Fun.ofN rfl ?_
  have hl : ¬ (f.length : Int) < (l : Int) := by have := h.len; omega
  simp [b_check_row, List.replicate, rowT, hl]
  refine Ok_for' (fun k ρ => ∃ x y, ρ = [some (.dat (.tup (f.map D.int))), some (.dat (.int (l : Int))), x, y]) _ _ ⟨_, _, rfl⟩ ?_ ?_
  · rintro i d ρ hd ⟨x, y, rfl⟩
    rw [enumFrom_at, List.getElem?_map] at hd
    have hi : i < f.length := by
      refine Classical.byContradiction fun hn => ?_
      rw [List.getElem?_eq_none (by omega)] at hd
      cases hd
    rw [cf_at hi] at hd
    have hd : D.tup [.int ((0 + i : Nat) : Int), .int (cf f i)] = d := by simpa using hd
    subst hd
    have h5 : ¬ ((500 : Int) < ((0 + i : Nat) : Int)) := by have := h.sz; omega
    have hix := inXT_ints (i := ((0 + i : Nat) : Int)) (ns := [0, (f.length : Int) - 1])
    simp only [List.map_cons, List.map_nil] at hix
    by_cases c : cf f i = 0
    · have m : ¬ ((0 + i : Nat) : Int) ∈ [(0 : Int), (f.length : Int) - 1] := fun hm => by
        simp only [List.mem_cons, List.not_mem_nil, or_false] at hm
        rcases hm with hm | hm
        · have : i = 0 := by omega
          rw [this] at c; exact h.fst c
        · have : i = f.length - 1 := by omega
          rw [this] at c; exact h.lst c
      rw [decide_eq_false m] at hix
      simp only [Nat.zero_add] at hix h5
      simp [h5, (p_is_integer _).a1, c, hix]
    · simp only [Nat.zero_add] at h5
      simp [h5, (p_is_integer _).a1, c]
  · rintro ρ ⟨x, y, rfl⟩
    rfl
def bdq (q : PI) : Prop := q.1.natAbs ≤ 1000 ∧ q.2.natAbs ≤ 1000
theorem q_bent {a b c : PI} (ha : bdq a) (hb : bdq b) (hc : bdq c) : Fun F_is_bent [pr a, pr b, pr c] (.bl (decide (crs a b c ≤ 0))) := by
  refine Fun.of rfl ?_
  obtain ⟨a1, a2⟩ := ha
  obtain ⟨b1, b2⟩ := hb
  have m1 : mulOk (b.2 - a.2) (c.1 - a.1) = true := mulOk_l (by omega)
  have m2 : mulOk (c.2 - a.2) (b.1 - a.1) = true := mulOk_r (by omega)
  have e : crs a b c = (c.2 - a.2) * (b.1 - a.1) - (b.2 - a.2) * (c.1 - a.1) := by unfold crs; rw [Int.mul_comm (b.1 - a.1)]
  have e2 : decide (crs a b c ≤ 0) = decide ((c.2 - a.2) * (b.1 - a.1) ≤ (b.2 - a.2) * (c.1 - a.1)) := by
    rw [e, Bool.eq_iff_iff, decide_eq_true_iff, decide_eq_true_iff]; omega
  rw [e2]
  simp [b_is_bent, List.replicate, m1, m2]
theorem q_cross {a b c : PI} (ha : bdq a) (hb : bdq b) (hc : bdq c) : Fun F__law_cross [pr a, pr b, pr c] (.int (crs a b c)) := by
  refine Fun.of rfl ?_
  obtain ⟨a1, a2⟩ := ha
  obtain ⟨b1, b2⟩ := hb
  have m1 : mulOk (b.1 - a.1) (c.2 - a.2) = true := mulOk_l (by omega)
  have m2 : mulOk (b.2 - a.2) (c.1 - a.1) = true := mulOk_l (by omega)
  simp [b__law_cross, List.replicate, m1, m2, crs]
theorem pop_sub {c : PI} : ∀ {t : List PI} {q : PI}, q ∈ popB t c → q ∈ t
  | [], q, h => h
  | [b], q, h => h
  | b :: a :: r, q, h => by
    rw [popB] at h
    split at h
    · exact List.mem_cons_of_mem _ (pop_sub h)
    · exact h
theorem pop_len {c : PI} : ∀ {t : List PI}, (popB t c).length ≤ t.length
  | [] => Nat.le_refl _
  | [b] => Nat.le_refl _
  | b :: a :: r => by
    rw [popB]
    split
    · exact Nat.le_trans pop_len (by simp)
    · exact Nat.le_refl _
theorem hstk_sub : ∀ (n : Nat) (P : List PI), P.length = n → (∀ q ∈ hstk P, q ∈ P) ∧ (hstk P).length ≤ n
  | 0, P, h => by
    rw [List.length_eq_zero_iff.mp h]
    exact ⟨fun q hq => absurd hq List.not_mem_nil, Nat.le_refl _⟩
  | n + 1, P, h => by
    obtain ⟨Q, c, rfl⟩ : ∃ Q c, P = Q ++ [c] := ⟨P.dropLast, P.getLast (by intro z; rw [z] at h; simp at h), (List.dropLast_concat_getLast _).symm⟩
    have hn : Q.length = n := by simpa using h
    obtain ⟨h1, h2⟩ := hstk_sub n Q hn
    rw [hstk_snoc]
    refine ⟨fun q hq => ?_, ?_⟩
    · rcases List.mem_cons.mp hq with rfl | hq
      · simp
      · exact List.mem_append_left _ (h1 q (pop_sub hq))
    · rw [List.length_cons]
      have := pop_len (t := hstk Q) (c := c)
      omega
end Hd

namespace Hd
open PySem PySem.Spec Spl
theorem hstk_take {R : List PI} {i : Nat} {p : PI} (h : R[i]? = some p) : hstk (R.take (i + 1)) = p :: popB (hstk (R.take i)) p := by
  rw [take_get h, hstk_snoc]
theorem pop_two {b a : PI} {r : List PI} {c : PI} : popB (b :: a :: r) c = if crs a b c ≤ 0 then popB (a :: r) c else b :: a :: r := by rw [popB]
def AllB (t : List PI) : Prop := ∀ q ∈ t, bdq q
theorem p_below {R : List PI} (hb : ∀ q ∈ R, bdq q) (hl : R.length ≤ 1000) : Fun F_below [.lst (R.map pr)] (lad (hull R)) := by
  refine Fun.of rfl ?_
  simp [b_below, List.replicate]
  refine Ok_for' (fun k ρ => ∃ x, ρ = [some (.dat (.lst (R.map pr))), some (.lst ((hstk (R.take k)).reverse.map pr)), x]) _ _ ⟨_, rfl⟩ ?_ ?_
  · rintro i d ρ hd ⟨x, rfl⟩
    rw [List.getElem?_map] at hd
    obtain ⟨p, hp, rfl⟩ := Option.map_eq_some_iff.mp hd
    have bp := hb p (List.mem_of_getElem? hp)
    obtain ⟨s1, s2⟩ := hstk_sub _ (R.take i) rfl
    rw [List.length_take] at s2
    have bs : ∀ q ∈ hstk (R.take i), bdq q := fun q hq => hb q (List.mem_of_mem_take (s1 q hq))
    simp
    refine Ok_while' (fun n ρ => ∃ t, ρ = [some (.dat (.lst (R.map pr))), some (.lst (t.reverse.map pr)), some (.dat (pr p))] ∧ t.length = n ∧ popB t p = popB (hstk (R.take i)) p ∧ AllB t) (fun ρ => ρ = [some (.dat (.lst (R.map pr))), some (.lst ((popB (hstk (R.take i)) p).reverse.map pr)), some (.dat (pr p))]) ?_ ?_ _ _ ⟨hstk (R.take i), by simp, rfl, rfl, bs⟩
    · rintro n ρ ⟨t, rfl, rfl, ht, bt⟩
      match t, ht, bt with
      | [], ht, bt =>
        rw [← ht]
        simp [popB]
      | [b], ht, bt =>
        rw [← ht]
        simp [popB]
      | b :: a :: r, ht, bt =>
        have b2 := bt b (by simp)
        have a2 := bt a (by simp)
        have e2 : ixDD (.lst ((b :: a :: r).reverse.map pr)) (.int (-2)) = some (.val (pr a)) := ix_lstL (k := 2) (by decide) (by simp) (by simp)
        have e1 : ixDD (.lst ((b :: a :: r).reverse.map pr)) (.int (-1)) = some (.val (pr b)) := ix_lstL (k := 1) (by decide) (by simp) (by simp)
        have hlen : (1 : Int) < (((b :: a :: r).reverse.map pr).length : Int) := by simp; omega
        have ex : (b :: a :: r).reverse.map pr = (a :: r).reverse.map pr ++ [pr b] := by simp
        have hw := popW_snoc (xs := (a :: r).reverse.map pr) (d := pr b)
        rw [← ex] at hw
        have ht2 := ht
        rw [pop_two] at ht2
        generalize hL : (b :: a :: r).reverse.map pr = L at *
        by_cases hc : crs a b p ≤ 0
        · rw [if_pos hc] at ht2
          simp [hlen, e1, e2, (q_bent a2 b2 bp).a3, hc, hw]
          exact ⟨r.length + 1, by omega, a :: r, by simp, by simp, ht2, fun q hq => bt q (List.mem_cons_of_mem _ hq)⟩
        · rw [if_neg hc] at ht2
          rw [← ht2, hL]
          simp [hlen, e1, e2, (q_bent a2 b2 bp).a3, hc]
    · rintro ρ rfl
      have hlt : (popB (hstk (R.take i)) p).length < sizeLine := by
        have := pop_len (t := hstk (R.take i)) (c := p)
        exact Nat.lt_of_le_of_lt (by omega : _ ≤ 1000) (by decide)
      simp [hlt, hstk_take hp]
  · rintro ρ ⟨x, rfl⟩
    rw [List.length_map, List.take_length]
    simp [lad, hull]
theorem q_lower {R : List PI} (hb : ∀ q ∈ R, bdq q) (hl : R.length ≤ 1000) : Fun F__law_lower [.lst (R.map pr)] (lad (hull R)) := by
  refine Fun.of rfl ?_
  simp [b__law_lower, List.replicate]
  refine Ok_for' (fun k ρ => ∃ x, ρ = [some (.dat (.lst (R.map pr))), some (.lst ((hstk (R.take k)).reverse.map pr)), x]) _ _ ⟨_, rfl⟩ ?_ ?_
  · rintro i d ρ hd ⟨x, rfl⟩
    rw [List.getElem?_map] at hd
    obtain ⟨p, hp, rfl⟩ := Option.map_eq_some_iff.mp hd
    have bp := hb p (List.mem_of_getElem? hp)
    obtain ⟨s1, s2⟩ := hstk_sub _ (R.take i) rfl
    rw [List.length_take] at s2
    have bs : ∀ q ∈ hstk (R.take i), bdq q := fun q hq => hb q (List.mem_of_mem_take (s1 q hq))
    simp
    refine Ok_while' (fun n ρ => ∃ t, ρ = [some (.dat (.lst (R.map pr))), some (.lst (t.reverse.map pr)), some (.dat (pr p))] ∧ t.length = n ∧ popB t p = popB (hstk (R.take i)) p ∧ AllB t) (fun ρ => ρ = [some (.dat (.lst (R.map pr))), some (.lst ((popB (hstk (R.take i)) p).reverse.map pr)), some (.dat (pr p))]) ?_ ?_ _ _ ⟨hstk (R.take i), by simp, rfl, rfl, bs⟩
    · rintro n ρ ⟨t, rfl, rfl, ht, bt⟩
      match t, ht, bt with
      | [], ht, bt =>
        rw [← ht]
        simp [popB]
      | [b], ht, bt =>
        rw [← ht]
        simp [popB]
      | b :: a :: r, ht, bt =>
        have b2 := bt b (by simp)
        have a2 := bt a (by simp)
        have e2 : ixDD (.lst ((b :: a :: r).reverse.map pr)) (.int (-2)) = some (.val (pr a)) := ix_lstL (k := 2) (by decide) (by simp) (by simp)
        have e1 : ixDD (.lst ((b :: a :: r).reverse.map pr)) (.int (-1)) = some (.val (pr b)) := ix_lstL (k := 1) (by decide) (by simp) (by simp)
        have hlen : (1 : Int) < (((b :: a :: r).reverse.map pr).length : Int) := by simp; omega
        have ex : (b :: a :: r).reverse.map pr = (a :: r).reverse.map pr ++ [pr b] := by simp
        have hw := popW_snoc (xs := (a :: r).reverse.map pr) (d := pr b)
        rw [← ex] at hw
        have ht2 := ht
        rw [pop_two] at ht2
        generalize hL : (b :: a :: r).reverse.map pr = L at *
        by_cases hc : crs a b p ≤ 0
        · rw [if_pos hc] at ht2
          simp [hlen, e1, e2, (q_cross a2 b2 bp).a3, hc, hw]
          exact ⟨r.length + 1, by omega, a :: r, by simp, by simp, ht2, fun q hq => bt q (List.mem_cons_of_mem _ hq)⟩
        · rw [if_neg hc] at ht2
          rw [← ht2, hL]
          simp [hlen, e1, e2, (q_cross a2 b2 bp).a3, hc]
    · rintro ρ rfl
      have hlt : (popB (hstk (R.take i)) p).length < sizeLine := by
        have := pop_len (t := hstk (R.take i)) (c := p)
        exact Nat.lt_of_le_of_lt (by omega : _ ≤ 1000) (by decide)
      simp [hlt, hstk_take hp]
  · rintro ρ ⟨x, rfl⟩
    rw [List.length_map, List.take_length]
    simp [lad, hull]
/-! products -/
def rg0 (N : Nat) (G : Nat → Int) : List D := (List.range N).map fun k => .int (G k)
theorem rg0_at {N : Nat} {G : Nat → Int} {k : Nat} (h : k < N) : (rg0 N G)[k]? = some (.int (G k)) := by
  unfold rg0
  rw [List.getElem?_map, List.getElem?_range h]; rfl
theorem rg0_set {N : Nat} {G : Nat → Int} {k : Nat} {v : Int} : (rg0 N G).set k (.int v) = rg0 N fun x => if x = k then v else G x := by
  unfold rg0
  refine List.ext_getElem? fun i => ?_
  rw [List.getElem?_set, List.getElem?_map, List.getElem?_map, List.length_map, List.length_range]
  by_cases hi : i < N
  · rw [List.getElem?_range hi]
    by_cases e : k = i
    · subst e
      rw [if_pos rfl, if_pos hi]
      simp
    · rw [if_neg e]
      have : ¬ i = k := fun z => e z.symm
      simp [this]
  · rw [List.getElem?_eq_none (l := List.range N) (by simp; omega)]
    by_cases e : k = i
    · rw [if_pos e, if_neg (by omega)]; rfl
    · rw [if_neg e]; rfl
theorem rg0_congr {N : Nat} {G H : Nat → Int} (h : ∀ k, k < N → G k = H k) : rg0 N G = rg0 N H := List.map_congr_left fun k hk => by rw [h k (List.mem_range.mp hk)]
def pcP (f g : List Int) (i k : Nat) : Int := ((List.range i).map (pterm f g k)).sum
def pcQ (f g : List Int) (i j k : Nat) : Int := pcP f g i k + (if i ≤ k ∧ k - i < j then cf f i * cf g (k - i) else 0)
theorem pcQ_0 {f g : List Int} {i k : Nat} : pcQ f g i 0 k = pcP f g i k := by
  unfold pcQ
  rw [if_neg (by omega), Int.add_zero]
theorem pcQ_m {f g : List Int} {i k : Nat} : pcQ f g i g.length k = pcP f g (i + 1) k := by
  unfold pcQ pcP
  rw [List.range_succ, List.map_append, List.sum_append]
  have e : (([i] : List Nat).map (pterm f g k)).sum = pterm f g k i := by simp
  rw [e]
  congr 1
  unfold pterm
  by_cases h : i ≤ k
  · rw [if_pos h]
    by_cases h2 : k - i < g.length
    · rw [if_pos ⟨h, h2⟩]
    · rw [if_neg (fun z => h2 z.2)]
      have : cf g (k - i) = 0 := by unfold cf; rw [List.getElem?_eq_none (by omega)]; rfl
      rw [this, Int.mul_zero]
  · rw [if_neg h, if_neg (fun z => h z.1)]
theorem pcQ_s {f g : List Int} {i j k : Nat} : pcQ f g i (j + 1) k = if k = i + j then pcQ f g i j (i + j) + cf f i * cf g j else pcQ f g i j k := by
  by_cases e : k = i + j
  · subst e
    rw [if_pos rfl]
    unfold pcQ
    rw [if_pos (by omega), if_neg (by omega), Nat.add_sub_cancel_left]
    omega
  · rw [if_neg e]
    unfold pcQ
    congr 1
    by_cases h : i ≤ k ∧ k - i < j
    · rw [if_pos h, if_pos (by omega)]
    · rw [if_neg h, if_neg (by omega)]
theorem lstSet_at {xs : List D} {k : Nat} {d : D} (h : k < xs.length) : lstSet (.lst xs) (.int (k : Int)) d = some (.lst (xs.set k d)) := by
  show (L2.ixN xs.length (k : Int)).map _ = _
  rw [ixN_nat h]; rfl
theorem prodC_eq {f g : List Int} : rg0 (f.length + g.length - 1) (pcP f g f.length) = (prodC f g).map D.int := by
  unfold rg0 prodC
  rw [List.map_map]; rfl
theorem ixI_rg {N : Nat} {G : Nat → Int} {k : Nat} (h : k < N) : ixI (some (.lst (rg0 N G))) (k : Int) = some (G k) := by
  unfold ixI
  simp [rg0_at h]
theorem Ok_augIx {i : Nat} {b : B} {fi fe : Rho → Rs R} {ρ : Rho} {P : Fl → Rho → Prop} {k n m z : Int} {w w' : W} (h1 : look ρ i = some w) (hf : fi ρ = .ok (.val (.int k)) ρ) (he : fe ρ = .ok (.val (.int m)) ρ) (hi : ixI (some w) k = some n) (hz : augZ b n m = some z) (hs : lstSet w (.int k) (.int z) = some w') (hP : P .nx (ρ.set i (some w'))) : Ok (stAugIx i b fi fe ρ) P := by
  unfold stAugIx
  rw [h1, if_pos (show (some w).isSome = true from rfl), hf]
  show Ok ((opt (ixI (look ρ i) k) ρ).bind fun n ρ3 => (fe ρ3).bind fun r ρ4 => (opt (r.int ρ4) ρ4).bind fun m ρ5 => (opt (augZ b n m) ρ5).bind fun z ρ6 => setW lstSet i (.val (.int k)) (.int z) ρ6) P
  rw [h1, hi]
  show Ok ((fe ρ).bind fun r ρ4 => (opt (r.int ρ4) ρ4).bind fun m ρ5 => (opt (augZ b n m) ρ5).bind fun z ρ6 => setW lstSet i (.val (.int k)) (.int z) ρ6) P
  rw [he]
  show Ok ((opt (augZ b n m) ρ).bind fun z ρ6 => setW lstSet i (.val (.int k)) (.int z) ρ6) P
  rw [hz]
  show Ok (setW lstSet i (.val (.int k)) (.int z) ρ) P
  unfold setW
  rw [h1]
  show Ok (match lstSet w (.int k) (.int z) with | some w' => Rs.ok Fl.nx (ρ.set i (some w')) | none => .stuck) P
  rw [hs]
  exact Ok_ok.mpr hP
theorem p_product {f g : List Int} (hf : f ≠ []) (hg : g ≠ []) (hl : f.length + g.length ≤ 500) (hb : ∀ i, (cf g i).natAbs < 2 ^ 64) : Fun F_product_of [rowT f, rowT g] (rowT (prodC f g)) := by
  refine Fun.of rfl ?_
  have h1 := List.length_pos_iff.mpr hf
  have h2 := List.length_pos_iff.mpr hg
  have ir : inR ((f.length : Int) + (g.length : Int) - 1) := inR_small (by omega) (by omega)
  have eN : ((f.length : Int) + (g.length : Int) - 1).toNat = f.length + g.length - 1 := by omega
  have hN : f.length + g.length - 1 ≤ sizeLine := Nat.le_trans (by omega : _ ≤ 500) (by decide)
  simp [b_product_of, List.replicate, rowT]
  refine Ok_lcMap (upto 0 (f.length + g.length - 1)) id (fun _ => .int 0) ?_
  simp [ir, eN, hN, upto_len, vsOk, isDat, wipeR, restR]
  have e0 : (upto 0 (f.length + g.length - 1)).map (fun _ => D.int 0) = rg0 (f.length + g.length - 1) (pcP f g 0) := by
    unfold rg0
    refine List.ext_getElem? fun i => ?_
    rw [List.getElem?_map, List.getElem?_map, upto_at]
    by_cases hi : i < f.length + g.length - 1
    · rw [if_pos hi, List.getElem?_range hi]; rfl
    · rw [if_neg hi, List.getElem?_eq_none (l := List.range _) (by simp; omega)]; rfl
  rw [e0]
  refine Ok_for' (fun k ρ => ∃ a b c d, ρ = [some (.dat (.tup (f.map D.int))), some (.dat (.tup (g.map D.int))), some (.lst (rg0 (f.length + g.length - 1) (pcP f g k))), a, b, c, d, none]) _ _ ⟨_, _, _, _, rfl⟩ ?_ ?_
  · rintro i x ρ hx ⟨a, b, c, d, rfl⟩
    rw [enumFrom_at, List.getElem?_map] at hx
    have hi : i < f.length := by
      refine Classical.byContradiction fun hn => ?_
      rw [List.getElem?_eq_none (by omega)] at hx
      cases hx
    rw [cf_at hi] at hx
    have hx : D.tup [.int ((0 + i : Nat) : Int), .int (cf f i)] = x := by simpa using hx
    subst hx
    simp only [Nat.zero_add]
    simp
    refine Ok_for' (fun j ρ => ∃ c d, ρ = [some (.dat (.tup (f.map D.int))), some (.dat (.tup (g.map D.int))), some (.lst (rg0 (f.length + g.length - 1) (pcQ f g i j))), some (.dat (.int (i : Int))), some (.dat (.int (cf f i))), c, d, none]) _ _ ⟨c, d, by rw [rg0_congr fun k _ => pcQ_0 (f := f) (g := g) (i := i) (k := k)]⟩ ?_ ?_
    · rintro j x ρ hx ⟨c, d, rfl⟩
      rw [enumFrom_at, List.getElem?_map] at hx
      have hj : j < g.length := by
        refine Classical.byContradiction fun hn => ?_
        rw [List.getElem?_eq_none (by omega)] at hx
        cases hx
      rw [cf_at hj] at hx
      have hx : D.tup [.int ((0 + j : Nat) : Int), .int (cf g j)] = x := by simpa using hx
      subst hx
      simp only [Nat.zero_add]
      have ek : ((i : Int) + (j : Int)) = ((i + j : Nat) : Int) := by omega
      have hk : i + j < f.length + g.length - 1 := by omega
      have ii := ixI_rg (G := pcQ f g i j) hk
      have m : mulOk (cf f i) (cf g j) = true := mulOk_r (hb j)
      have az : augZ .add (pcQ f g i j (i + j)) (cf f i * cf g j) = some (pcQ f g i j (i + j) + cf f i * cf g j) := rfl
      have ls : lstSet (.lst (rg0 (f.length + g.length - 1) (pcQ f g i j))) (.int ((i + j : Nat) : Int)) (.int (pcQ f g i j (i + j) + cf f i * cf g j)) = some (.lst (rg0 (f.length + g.length - 1) (pcQ f g i (j + 1)))) := by
        rw [lstSet_at (by unfold rg0; rw [List.length_map, List.length_range]; exact hk), rg0_set]
        congr 2
        exact rg0_congr fun k _ => pcQ_s.symm
      simp only [tg_two, tgCons_eq, tgNil_eq, tgName_eq, putW_eq]
      simp
      refine Ok_augIx (k := ((i + j : Nat) : Int)) (n := pcQ f g i j (i + j)) (m := cf f i * cf g j) (w := .lst (rg0 (f.length + g.length - 1) (pcQ f g i j))) rfl ?_ ?_ ii az ls ⟨rfl, _, _, rfl⟩
      · simp
      · simp [m]
    · rintro ρ ⟨c, d, rfl⟩
      have el : (enumFrom 0 (g.map D.int)).length = g.length := by
        have h : ∀ (k : Nat) (xs : List D), (enumFrom k xs).length = xs.length := by
          intro k xs
          induction xs generalizing k with
          | nil => rfl
          | cons x xs ih => rw [enumFrom, List.length_cons, List.length_cons, ih]
        rw [h, List.length_map]
      rw [el, rg0_congr fun k _ => pcQ_m (f := f) (g := g) (i := i) (k := k)]
      simp
  · rintro ρ ⟨a, b, c, d, rfl⟩
    have el : (enumFrom 0 (f.map D.int)).length = f.length := by
      have h : ∀ (k : Nat) (xs : List D), (enumFrom k xs).length = xs.length := by
        intro k xs
        induction xs generalizing k with
        | nil => rfl
        | cons x xs ih => rw [enumFrom, List.length_cons, List.length_cons, ih]
      rw [h, List.length_map]
    rw [el, prodC_eq]
    simp
theorem p_multiplied {f g : List Int} (rf : Rw 1 f) (rg' : Rw 1 g) (hl : f.length + g.length ≤ 500) (hb : ∀ i, (cf g i).natAbs < 2 ^ 64) : Fun F_multiplied [rowT f, rowT g] (rowT (prodC f g)) := by
  refine Fun.of rfl ?_
  have hf : f ≠ [] := List.length_pos_iff.mp rf.one
  have hg : g ≠ [] := List.length_pos_iff.mp rg'.one
  have c1 : Fun F_check_row [rowT f, .int 1] .non := p_check_row rf
  have c2 : Fun F_check_row [rowT g, .int 1] .non := p_check_row rg'
  simp [b_multiplied, List.replicate, c1.a2, c2.a2, (p_product hf hg hl hb).a2]
end Hd

namespace Hd
open PySem PySem.Spec Spl
theorem mulL_rep {n : Nat} {d : D} (h : n ≤ 1000) : mulD (.lst [d]) (.int (n : Int)) = some (.tmp (.lst (List.replicate n d))) := by
  have hm : inM (n : Int) := ⟨Int.le_trans (by decide : -(2 ^ 63 : Int) ≤ 0) (by omega), Int.lt_of_le_of_lt (by omega : (n : Int) ≤ 1000) (by decide)⟩
  have hz : [d].length * ((n : Int)).toNat ≤ sizeLine := by
    rw [Int.toNat_natCast]
    exact Nat.le_trans (by simp; omega : [d].length * n ≤ 1000) (by decide)
  show (if inM (n : Int) ∧ [d].length * ((n : Int)).toNat ≤ sizeLine then some (R.tmp (.lst (List.replicate ((n : Int)).toNat [d]).flatten)) else none) = _
  rw [if_pos ⟨hm, hz⟩, Int.toNat_natCast]
  congr 3
  clear h hm hz
  induction n with
  | zero => rfl
  | succ n ih => rw [List.replicate_succ, List.flatten_cons, ih]; rfl
theorem rg0_zero {f g : List Int} {N : Nat} : List.replicate N (D.int 0) = rg0 N (pcP f g 0) := by
  unfold rg0
  refine List.ext_getElem? fun i => ?_
  rw [List.getElem?_map, List.getElem?_replicate]
  by_cases hi : i < N
  · rw [if_pos hi, List.getElem?_range hi]; rfl
  · rw [if_neg hi, List.getElem?_eq_none (l := List.range _) (by simp; omega)]; rfl
theorem p_lmul {f g : List Int} (hf : f ≠ []) (hg : g ≠ []) (hl : f.length + g.length ≤ 500) (hb : ∀ i, (cf g i).natAbs < 2 ^ 64) : Fun F__law_multiplied [rowT f, rowT g] (rowT (prodC f g)) := by
  refine Fun.of rfl ?_
  have h1 := List.length_pos_iff.mpr hf
  have h2 := List.length_pos_iff.mpr hg
  have eN : ((f.length : Int) + (g.length : Int) - 1) = ((f.length + g.length - 1 : Nat) : Int) := by omega
  have mr := mulL_rep (n := f.length + g.length - 1) (d := .int 0) (by omega)
  have i1 : inR ((f.length : Nat) : Int) := inR_nat (by omega)
  have i2 : inR ((g.length : Nat) : Int) := inR_nat (by omega)
  simp [b__law_multiplied, List.replicate, rowT]
  rw [eN, mr, rg0_zero (f := f) (g := g)]
  simp [i1]
  refine Ok_for' (fun k ρ => ∃ a b, ρ = [some (.dat (.tup (f.map D.int))), some (.dat (.tup (g.map D.int))), some (.lst (rg0 (f.length + g.length - 1) (pcP f g k))), a, b]) _ _ ⟨_, _, rfl⟩ ?_ ?_
  · rintro i x ρ hx ⟨a, b, rfl⟩
    obtain ⟨hi, rfl⟩ := upto_some hx
    simp [i2]
    refine Ok_for' (fun j ρ => ∃ b, ρ = [some (.dat (.tup (f.map D.int))), some (.dat (.tup (g.map D.int))), some (.lst (rg0 (f.length + g.length - 1) (pcQ f g i j))), some (.dat (.int (i : Int))), b]) _ _ ⟨b, by rw [rg0_congr fun k _ => pcQ_0 (f := f) (g := g) (i := i) (k := k)]⟩ ?_ ?_
    · rintro j x ρ hx ⟨b, rfl⟩
      obtain ⟨hj, rfl⟩ := upto_some hx
      have hk : i + j < f.length + g.length - 1 := by omega
      have ek : (i : Int) + (j : Int) = ((i + j : Nat) : Int) := by omega
      have x1 : ixDD (.lst (rg0 (f.length + g.length - 1) (pcQ f g i j))) (.int ((i : Int) + (j : Int))) = some (.val (.int (pcQ f g i j (i + j)))) := by
        rw [ek]; exact ix_lst (rg0_at hk)
      have x2 : ixDD (.tup (f.map D.int)) (.int (i : Int)) = some (.val (.int (cf f i))) := ix_tup (by rw [List.getElem?_map, cf_at hi]; rfl)
      have x3 : ixDD (.tup (g.map D.int)) (.int (j : Int)) = some (.val (.int (cf g j))) := ix_tup (by rw [List.getElem?_map, cf_at hj]; rfl)
      have m : mulOk (cf f i) (cf g j) = true := mulOk_r (hb j)
      have ls : lstSet (.lst (rg0 (f.length + g.length - 1) (pcQ f g i j))) (.int ((i : Int) + (j : Int))) (.int (pcQ f g i j (i + j) + cf f i * cf g j)) = some (.lst (rg0 (f.length + g.length - 1) (pcQ f g i (j + 1)))) := by
        rw [ek, lstSet_at (by unfold rg0; rw [List.length_map, List.length_range]; exact hk), rg0_set]
        congr 2
        exact rg0_congr fun k _ => pcQ_s.symm
      simp [x1, x2, x3, m, ls]
    · rintro ρ ⟨b, rfl⟩
      rw [upto_len, rg0_congr fun k _ => pcQ_m (f := f) (g := g) (i := i) (k := k)]
      simp
  · rintro ρ ⟨a, b, rfl⟩
    rw [upto_len, prodC_eq]
    simp
/-- what told_by needs -/
structure Rt (p : Int) (f : List Int) : Prop where
  rw_ : Rw 2 f
  big : ∀ i, cf f i ≠ 0 → hv p (cf f i) ≤ 900
  e0 : hv p (cf f 0) ≤ 60
  e1 : hv p (cf f (f.length - 1)) ≤ 60
theorem Rt.nz {p : Int} {f : List Int} (h : Rt p f) : nz f := ⟨0, h.rw_.fst⟩
theorem lea_nn {p : Int} {f : List Int} (h : nz f) : 0 ≤ lea p f := by
  have hne := pts_ne (p := p) h
  unfold lea
  cases e : ptsL p f with
  | nil => exact absurd e hne
  | cons x r =>
    have nn : ∀ q ∈ ptsL p f, 0 ≤ q.2 := fun q hq => by
      obtain ⟨i, _, rfl⟩ := List.mem_map.mp hq
      simp only; omega
    rw [e] at nn
    show 0 ≤ minI x.2 (r.map fun x => x.2)
    rcases minI_mem x.2 (r.map fun x => x.2) with z | z
    · rw [z]; exact nn x (List.mem_cons_self ..)
    · obtain ⟨y, hy, z⟩ := List.mem_map.mp z
      rw [← z]; exact nn y (List.mem_cons_of_mem _ hy)
theorem pts_bd {p : Int} {f : List Int} (h : Rt p f) : ∀ q ∈ ptsL p f, 0 ≤ q.1 ∧ q.1 ≤ 500 ∧ 0 ≤ q.2 ∧ q.2 ≤ 900 := fun q hq => by
  obtain ⟨i, hi, rfl⟩ := List.mem_map.mp hq
  have h1 := ixs_mem.mp hi
  have h2 := cf_lt h1
  have h3 := h.big i h1
  have := h.rw_.sz
  simp only
  omega
theorem sh_bd {p : Int} {f : List Int} (h : Rt p f) : ∀ q ∈ shP p f, 0 ≤ q.1 ∧ q.1 ≤ 500 ∧ 0 ≤ q.2 ∧ q.2 ≤ 900 := fun q hq => by
  obtain ⟨x, hx, rfl⟩ := List.mem_map.mp hq
  have h1 := pts_bd h x hx
  have h2 := lea_le hx
  have h3 := lea_nn (p := p) h.nz
  unfold shm
  simp only
  omega
theorem sh_len {p : Int} {f : List Int} (h : Rt p f) : (shP p f).length ≤ 501 := by
  unfold shP ptsL ixs
  rw [List.length_map, List.length_map]
  exact Nat.le_trans (List.length_filter_le _ _) (by rw [List.length_range]; exact h.rw_.sz)
theorem tl_head {p : Int} {f : List Int} (h : Rt p f) : (tl p f).head? = some (0, (hv p (cf f 0) : Int) - lea p f) := by
  unfold tl hull
  rw [List.head?_reverse, (tl_hk h.nz).bot]
  unfold shP ptsL ixs
  have hn := h.rw_.one
  obtain ⟨n, hn⟩ : ∃ n, f.length = n + 1 := ⟨f.length - 1, by omega⟩
  rw [hn, List.range_succ_eq_map, List.filter_cons_of_pos (by simpa using h.rw_.fst)]
  rfl
theorem tl_last {p : Int} {f : List Int} (h : Rt p f) : (tl p f).getLast? = some (((f.length - 1 : Nat) : Int), (hv p (cf f (f.length - 1)) : Int) - lea p f) := by
  unfold tl hull
  rw [List.getLast?_reverse, (tl_hk h.nz).top]
  unfold shP ptsL ixs
  have hn := h.rw_.one
  have hl := h.rw_.lst
  obtain ⟨n, hn⟩ : ∃ n, f.length = n + 1 := ⟨f.length - 1, by omega⟩
  rw [hn] at hl ⊢
  rw [Nat.add_sub_cancel] at hl ⊢
  rw [List.range_succ, List.filter_append, List.filter_cons_of_pos (by simpa using hl), List.map_append, List.map_append]
  simp [shm]
theorem tl_rng {p : Int} {f : List Int} (h : Rt p f) : ∀ q ∈ tl p f, 0 ≤ q.1 ∧ q.1 ≤ 500 ∧ 0 ≤ q.2 ∧ q.2 ≤ 60 := fun q hq => by
  have h1 := sh_bd h q ((tl_hk h.nz).sub q (List.mem_reverse.mp hq))
  have h2 := high (tl_head h) (tl_last h) (tl_chn h.nz) q hq
  have h3 := lea_nn (p := p) h.nz
  have := h.e0
  have := h.e1
  simp only at h2
  omega
theorem tl_two {p : Int} {f : List Int} (h : Rt p f) : 2 ≤ (tl p f).length := by
  have h1 := tl_head h
  have h2 := tl_last h
  have := h.rw_.len
  match hL : tl p f with
  | [] => rw [hL] at h1; cases h1
  | [a] =>
    rw [hL] at h1 h2
    have h2 : some a = _ := h2
    have h1 : some a = _ := h1
    rw [h1] at h2
    have h2 := Option.some.inj h2
    have : (0 : Int) = ((f.length - 1 : Nat) : Int) := congrArg Prod.fst h2
    omega
  | a :: b :: r => simp
theorem tl_val {p : Int} {f : List Int} (h : Rt p f) : Val (tl p f) ((f.length - 1 : Nat) : Int) := by
  have hc := tl_chn (p := p) h.nz
  refine ⟨tl_two h, ?_, tl_rng h, ⟨_, tl_head h⟩, ⟨_, tl_last h⟩, hc.1, hc.2⟩
  unfold tl hull
  rw [List.length_reverse]
  have := (hstk_sub _ (shP p f) rfl).2
  have := sh_len h
  omega
theorem enum_ints {f : List Int} : enumFrom 0 (f.map D.int) = (List.range f.length).map fun i => .tup [.int (i : Int), .int (cf f i)] := by
  refine List.ext_getElem? fun i => ?_
  rw [enumFrom_at, List.getElem?_map, List.getElem?_map]
  by_cases hi : i < f.length
  · rw [cf_at hi, List.getElem?_range hi]; simp
  · rw [List.getElem?_eq_none (by omega), List.getElem?_eq_none (by simp; omega)]; rfl
theorem p_told {p : Int} {f : List Int} (P : Okp p) (h : Rt p f) : Fun F_told_by [rowT f, .int p] (lad (tl p f)) := by
  refine Fun.of rfl ?_
  have c1 : Fun F_check_row [rowT f, .int 2] .non := p_check_row h.rw_
  have hs : f.length ≤ sizeLine := Nat.le_trans h.rw_.sz (by decide)
  have bd := sh_bd h
  have hb : Fun F_below [.lst ((shP p f).map pr)] (lad (tl p f)) := p_below (R := shP p f) (fun q hq => by have := bd q hq; exact ⟨by omega, by omega⟩) (Nat.le_trans (sh_len h) (by decide))
  have lm := lea_min (p := p) (pts_ne h.nz)
  have pl : (ptsL p f).length ≤ sizeLine := by
    have := sh_len h
    unfold shP at this
    rw [List.length_map] at this
    exact Nat.le_trans this (by decide)
  have tv := tl_val h
  have tlen := size1000 tv.sz
  have tne : tl p f ≠ [] := fun z => by have := tv.two; rw [z] at this; simp at this
  obtain ⟨mx, hmx, hm60, _⟩ := maxD_le (b := 60) (f := fun q : PI => q.2) tne (fun q hq => by have := tl_rng h q hq; omega)
  have hm : ¬ (60 : Int) < mx := by omega
  have c2 := (p_is_prime P)
  have ip : ((List.range f.length).filter fun i => decide (cf f i ≠ 0)).map (fun i : Nat => pr ((i : Int), (hv p (cf f i) : Int))) = (ptsL p f).map pr := by
    unfold ptsL ixs
    rw [List.map_map]; rfl
  have is : (ptsL p f).map (fun q => pr (q.1, q.2 - lea p f)) = (shP p f).map pr := by
    unfold shP
    rw [List.map_map]; rfl
  unfold rowT at c1 ⊢
  simp [b_told_by, List.replicate, c1.a2, c2.a1]
  refine Ok_lcFilt (List.range f.length) (fun i => .tup [.int (i : Int), .int (cf f i)]) (fun i => pr ((i : Int), (hv p (cf f i) : Int))) (fun i => decide (cf f i ≠ 0)) ?_
  simp only [ip]
  simp [enum_ints, hs, vsOk, isDat, wipeR, restR]
  refine ⟨fun i hi hc => ?_, ?_⟩
  · simp [(p_height P.two P.top hc).a2, to_pr]
  refine Ok_lcMap (ptsL p f) pr (fun q => .int q.2) ?_
  simp [pl, vsOk, isDat, wipeR, restR, lm]
  refine Ok_lcMap (ptsL p f) pr (fun q => pr (q.1, q.2 - lea p f)) ?_
  simp [pl, vsOk, isDat, wipeR, restR, is, hb.a1, to_pr]
  unfold lad
  refine Ok_lcMap (tl p f) pr (fun q => .int q.2) ?_
  simp [tlen, vsOk, isDat, wipeR, restR, hmx, hm]
theorem p_climb {p : Int} {f : List Int} (P : Okp p) (h : Rt p f) : Fun F__law_climb [rowT f, .int p] (lad (tl p f)) := by
  refine Fun.of rfl ?_
  have hs : f.length ≤ sizeLine := Nat.le_trans h.rw_.sz (by decide)
  have bd := sh_bd h
  have hb : Fun F__law_lower [.lst ((shP p f).map pr)] (lad (tl p f)) := q_lower (R := shP p f) (fun q hq => by have := bd q hq; exact ⟨by omega, by omega⟩) (Nat.le_trans (sh_len h) (by decide))
  have lm := lea_min (p := p) (pts_ne h.nz)
  have pl : (ptsL p f).length ≤ sizeLine := by
    have := sh_len h
    unfold shP at this
    rw [List.length_map] at this
    exact Nat.le_trans this (by decide)
  have ip : ((List.range f.length).filter fun i => decide (cf f i ≠ 0)).map (fun i : Nat => pr ((i : Int), (hv p (cf f i) : Int))) = (ptsL p f).map pr := by
    unfold ptsL ixs
    rw [List.map_map]; rfl
  have is : (ptsL p f).map (fun q => pr (q.1, q.2 - lea p f)) = (shP p f).map pr := by
    unfold shP
    rw [List.map_map]; rfl
  have ir : inR ((f.length : Nat) : Int) := inR_nat (by have := h.rw_.sz; omega)
  have eu : upto 0 f.length = (List.range f.length).map fun i : Nat => D.int (i : Int) := by
    refine List.ext_getElem? fun i => ?_
    rw [upto_at, List.getElem?_map]
    by_cases h : i < f.length
    · rw [if_pos h, List.getElem?_range h]; simp
    · rw [if_neg h, List.getElem?_eq_none (by simp; omega)]; rfl
  have x2 : ∀ i, i < f.length → ixDD (.tup (f.map D.int)) (.int (i : Int)) = some (.val (.int (cf f i))) := fun i hi => ix_tup (by rw [List.getElem?_map, cf_at hi]; rfl)
  unfold rowT
  simp [b__law_climb, List.replicate]
  refine Ok_lcFilt (List.range f.length) (fun i => .int (i : Int)) (fun i => pr ((i : Int), (hv p (cf f i) : Int))) (fun i => decide (cf f i ≠ 0)) ?_
  simp only [ip]
  simp [ir, eu, hs, vsOk, isDat, wipeR, restR]
  refine ⟨fun i hi => ?_, ?_⟩
  · simp [x2 i hi]
    intro hc
    simp [(p_power P.two P.top hc).a2, to_pr]
  refine Ok_lcMap (ptsL p f) pr (fun q => .int q.2) ?_
  simp [pl, vsOk, isDat, wipeR, restR, lm]
  refine Ok_lcMap (ptsL p f) pr (fun q => pr (q.1, q.2 - lea p f)) ?_
  simp [pl, vsOk, isDat, wipeR, restR, is, hb.a1, to_pr]
end Hd

namespace Hd
open PySem PySem.Spec Spl
theorem sorted_ints {ns : List Int} : sortedD (.lst (ns.map D.int)) = some (.tmp (.lst ((sortI ns).map D.int))) := by
  have e : D.intsOf (ns.map D.int) = some ns := by
    have := intsOf_map (xs := ns) (f := fun x => x)
    simpa using this
  show (D.intsOf (ns.map D.int)).map _ = _
  rw [e]; rfl
theorem addD_lst {xs ys : List D} : addD (.lst xs) (.lst ys) = if xs.length + ys.length ≤ sizeLine then some (.tmp (.lst (xs ++ ys))) else none := rfl
theorem Vals.one {L : List PI} {deg : Int} (v : Val L deg) : Vals [L] deg := ⟨by simp, by simp, fun M hM => by rw [List.mem_singleton.mp hM]; exact v⟩
def rep (R : List PI) : List Int := R.flatMap fun q => List.replicate q.2.toNat q.1
theorem rep_len : ∀ {R : List PI}, (∀ q ∈ R, q.2 ≤ 500) → (rep R).length ≤ 500 * R.length
  | [], _ => Nat.zero_le _
  | q :: R, h => by
    have ih := rep_len (R := R) fun x hx => h x (List.mem_cons_of_mem _ hx)
    have := h q (List.mem_cons_self ..)
    have e : rep (q :: R) = List.replicate q.2.toNat q.1 ++ rep R := rfl
    rw [e, List.length_append, List.length_replicate, List.length_cons]
    omega
theorem p_widths {L : List PI} {deg : Int} (v : Val L deg) : Ret F__law_widths [.dat (lad L)] fun r io => r = .lst ((sortI (expW L)).map D.int) ∧ io = [.dat (lad L)] := by
  refine Ret.of rfl rfl ?_
  have pr1 : Fun F_rungs [.tup [lad L]] (.tup [.tup ((rgs L).map pr)]) := by
    have h := p_rungs (Vals.one v)
    rw [show [L].map lad = [lad L] from rfl, show ([L].map fun L => D.tup ((rgs L).map pr)) = [.tup ((rgs L).map pr)] from rfl] at h
    exact h
  have ix : ixDD (.tup [.tup ((rgs L).map pr)]) (.int 0) = some (.val (.tup ((rgs L).map pr))) := rfl
  have hR : (rgs L).length ≤ 1000 := by rw [rgs, List.length_map, stp_len]; have := v.sz; omega
  simp [b__law_widths, List.replicate, pr1.a1, ix]
  refine Ok_for' (fun k ρ => ∃ a b, ρ = [some (.dat (lad L)), some (.lst ((rep ((rgs L).take k)).map D.int)), a, b]) _ _ ⟨_, _, rfl⟩ ?_ ?_
  · rintro i d ρ hd ⟨a, b, rfl⟩
    rw [List.getElem?_map] at hd
    obtain ⟨q, hq, rfl⟩ := Option.map_eq_some_iff.mp hd
    obtain ⟨r1, r2, r3, r4⟩ := v.rung (List.mem_of_getElem? hq)
    have hm := mulL_rep (n := q.2.toNat) (d := .int q.1) (by omega)
    have hi := (List.getElem?_eq_some_iff.mp hq).1
    rw [show ((q.2.toNat : Nat) : Int) = q.2 by omega] at hm
    have hl := rep_len (R := (rgs L).take i) fun x hx => (v.rung (List.mem_of_mem_take hx)).2.2.2
    rw [List.length_take] at hl
    have hz : (rep ((rgs L).take i)).length + q.2.toNat ≤ sizeLine := Nat.le_trans (by omega : _ ≤ 500 * 1000 + 500) (by decide)
    have er : (rep ((rgs L).take i)).map D.int ++ List.replicate q.2.toNat (.int q.1) = (rep ((rgs L).take (i + 1))).map D.int := by
      rw [take_get hq]
      unfold rep
      rw [List.flatMap_append, List.map_append]
      simp
    simp [hm, addD_lst, hz, er]
  · rintro ρ ⟨a, b, rfl⟩
    rw [List.length_map, List.take_length]
    have : rep (rgs L) = expW L := rfl
    rw [this]
    simp [sorted_ints]
    rfl
/-! rows that are drawn -/
def cores : List Int := [1, -1, 1, 2, 3, -5, 7, 30, 0]
def exps : List Nat := [0, 1, 2, 3, 0, 5]
def Cr (p x : Int) : Prop := ∃ c ∈ cores, ∃ e ∈ exps, x = c * p ^ e
structure Crow (p : Int) (f : List Int) : Prop where
  two : 2 ≤ f.length
  top : f.length ≤ 8
  all : ∀ x ∈ f, Cr p x
  fst : cf f 0 ≠ 0
  lst : cf f (f.length - 1) ≠ 0
def RwI (p many : Int) (k : Nat) (ρ : Rho) : Prop := ∃ (w : W) (xs : List Int) (a b : Option W), Jug w ∧ xs.length = k ∧ (∀ x ∈ xs, Cr p x) ∧ (∀ (i : Nat) (x : Int), xs[i]? = some x → ((i : Int) = 0 ∨ (i : Int) = many) → x ≠ 0) ∧ ρ = [some w, some (.dat (.int p)), some (.dat (.int many)), some (.lst (xs.map D.int)), a, b]
theorem log_small {n : Int} (h : n.natAbs ≤ 1000) : n.natAbs.log2 < 9000 := Nat.lt_of_le_of_lt (Nat.log2_le_self _) (by omega)
theorem q_row {w : W} (h : Jug w) {p : Int} (h2 : 2 ≤ p) (h9 : p ≤ 997) : Ret F__law_row [w, .dat (.int p)] fun r io => ∃ f, r = .dat (rowT f) ∧ Crow p f ∧ ∃ w', Jug w' ∧ io = [w', .dat (.int p)] := by
  obtain ⟨a, b, c, rfl⟩ := h
  refine Ret.of rfl rfl ?_
  have pw : ∀ k : Nat, k ≤ 10 → powD (.int p) (.int (k : Int)) = some (.val (.int (p ^ k))) := fun k hk => by
    show (if (0 : Int) ≤ k ∧ (k : Int) ≤ 1000000 ∧ p.natAbs < 2 ^ 64 then some (R.val (.int (p ^ (k : Int).toNat))) else none) = _
    rw [if_pos ⟨by omega, by omega, by omega⟩, Int.toNat_natCast]
  have pw2 : powD (.int p) (.int 2) = some (.val (.int (p ^ 2))) := pw 2 (by decide)
  have pw3 : powD (.int p) (.int 3) = some (.val (.int (p ^ 3))) := pw 3 (by decide)
  have pw5 : powD (.int p) (.int 5) = some (.val (.int (p ^ 5))) := pw 5 (by decide)
  have z9 : (9 : Nat) ≤ sizeLine := by decide
  simp [b__law_row, List.replicate]
  refine (p_pour ⟨a, b, c, rfl⟩ (top := 7) (by decide) (log_small (by decide))).ok (by simp) ?_
  rintro _ _ _ ⟨m, _, rfl, m0, m7, ⟨a, b, c, rfl⟩, rfl⟩
  have ir : inR (1 + m + 1) := inR_small (by omega) (by omega)
  simp [ir]
  refine Ok_for' (RwI p (1 + m)) _ _ ⟨_, [], _, _, ⟨a, b, c, rfl⟩, rfl, fun x hx => absurd hx List.not_mem_nil, fun i x hx => by simp at hx, rfl⟩ ?_ ?_
  · rintro k d ρ hd ⟨_, xs, x4, x5, ⟨a, b, c, rfl⟩, hlen, hall, hend, rfl⟩
    obtain ⟨hk, rfl⟩ := upto_some hd
    simp [z9]
    refine (p_pick ⟨a, b, c, rfl⟩ (xs := cores) (by decide) (by decide)).ok (by simp) ?_
    rintro _ _ _ ⟨co, hco, rfl, _, ⟨a, b, c, rfl⟩, rfl⟩
    have hin := inD_ints (x := (k : Int)) (T := [0, 1 + m])
    simp only [List.map_cons, List.map_nil] at hin
    have pk : ∀ co' : Int, co' ∈ cores → (((k : Int) = 0 ∨ (k : Int) = 1 + m) → co' ≠ 0) → Ok (ofFR 2 [.own 0, .dat (.lst [.int 1, .int p, .int (p ^ 2), .int (p ^ 3), .int 1, .int (p ^ 5)])] [some (.lst [.int a, .int b, .int c]), some (.dat (.int p)), some (.dat (.int (1 + m))), some (.lst (xs.map D.int)), some (.dat (.int (k : Int))), some (.dat (.int co'))] (F__law_pick [.lst [.int a, .int b, .int c], .dat (.lst [.int 1, .int p, .int (p ^ 2), .int (p ^ 3), .int 1, .int (p ^ 5)])])) fun r ρ => ∃ y w', r = .val (.int y) ∧ Jug w' ∧ Cr p (co' * y) ∧ (((k : Int) = 0 ∨ (k : Int) = 1 + m) → co' * y ≠ 0) ∧ mulOk co' y = true ∧ ρ = [some w', some (.dat (.int p)), some (.dat (.int (1 + m))), some (.lst (xs.map D.int)), some (.dat (.int (k : Int))), some (.dat (.int co'))] := by
      intro co' hc hne
      refine (p_pick ⟨a, b, c, rfl⟩ (xs := [1, p, p ^ 2, p ^ 3, 1, p ^ 5]) (by simp) (by simp)).ok (by simp) ?_
      rintro _ _ _ ⟨y, hy, rfl, w', hj, rfl⟩
      obtain ⟨e, he, hye⟩ : ∃ e ∈ exps, y = p ^ e := by
        simp only [List.mem_cons, List.not_mem_nil, or_false] at hy
        rcases hy with rfl | rfl | rfl | rfl | rfl | rfl
        · exact ⟨0, by decide, (Int.pow_zero _).symm⟩
        · exact ⟨1, by decide, by rw [Int.pow_succ, Int.pow_zero, Int.one_mul]⟩
        · exact ⟨2, by decide, rfl⟩
        · exact ⟨3, by decide, rfl⟩
        · exact ⟨0, by decide, (Int.pow_zero _).symm⟩
        · exact ⟨5, by decide, rfl⟩
      have mo : mulOk co' y = true := mulOk_l (by
        have : ∀ c ∈ cores, c.natAbs < 2 ^ 64 := by decide
        exact this _ hc)
      exact ⟨y, w', rfl, hj, ⟨co', hc, e, he, by rw [hye]⟩, fun z => Int.mul_ne_zero (hne z) (by rw [hye]; exact pow_ne h2 e), mo, by simp⟩
    have fin : ∀ co' : Int, co' ∈ cores → (((k : Int) = 0 ∨ (k : Int) = 1 + m) → co' ≠ 0) → Ok (ofFR 2 [.own 0, .dat (.lst [.int 1, .int p, .int (p ^ 2), .int (p ^ 3), .int 1, .int (p ^ 5)])] [some (.lst [.int a, .int b, .int c]), some (.dat (.int p)), some (.dat (.int (1 + m))), some (.lst (xs.map D.int)), some (.dat (.int (k : Int))), some (.dat (.int co'))] (F__law_pick [.lst [.int a, .int b, .int c], .dat (.lst [.int 1, .int p, .int (p ^ 2), .int (p ^ 3), .int 1, .int (p ^ 5)])])) fun r ρ => ∃ y w', r = .val (.int y) ∧ mulOk co' y = true ∧ ρ = [some w', some (.dat (.int p)), some (.dat (.int (1 + m))), some (.lst (xs.map D.int)), some (.dat (.int (k : Int))), some (.dat (.int co'))] ∧ RwI p (1 + m) (k + 1) [some w', some (.dat (.int p)), some (.dat (.int (1 + m))), some (.lst ((xs ++ [co' * y]).map D.int)), some (.dat (.int (k : Int))), some (.dat (.int co'))] := by
      intro co' hc hne
      refine (pk co' hc hne).mono ?_
      rintro r ρ ⟨y, w', rfl, hj, hcr, hn0, mo, rfl⟩
      refine ⟨y, w', rfl, mo, rfl, w', xs ++ [co' * y], _, _, hj, by simp [hlen], fun x hx => ?_, fun i x hx hi => ?_, rfl⟩
      · rcases List.mem_append.mp hx with hx | hx
        · exact hall x hx
        · rw [List.mem_singleton.mp hx]; exact hcr
      · rcases Nat.lt_trichotomy i xs.length with l | l | l
        · rw [List.getElem?_append_left l] at hx
          exact hend i x hx hi
        · rw [l, List.getElem?_concat_length] at hx
          cases hx
          exact hn0 (by rw [← hlen, ← l]; exact hi)
        · rw [List.getElem?_eq_none (by rw [List.length_append]; simp; omega)] at hx
          cases hx
    have hz : xs.length < sizeLine := Nat.lt_of_lt_of_le (by omega : xs.length < 1000) (by decide)
    have run : ∀ co' : Int, co' ∈ cores → (((k : Int) = 0 ∨ (k : Int) = 1 + m) → co' ≠ 0) → Ok (stExpr (evMut 3 W.isLst appendW (evCons [0] (ev2 mulD (evV 5) (evCall F__law_pick [] (aOwn (evV 0) (aDat [0] (evLst (evCons [0] (evC (.int 1)) (evCons [0] (evV 1) (evCons [0] (ev2 powD (evV 1) (evC (.int 2))) (evCons [0] (ev2 powD (evV 1) (evC (.int 3))) (evCons [0] (evC (.int 1)) (evCons [0] (ev2 powD (evV 1) (evC (.int 5))) evNil))))))) aNil)))) evNil)) [some (.lst [.int a, .int b, .int c]), some (.dat (.int p)), some (.dat (.int (1 + m))), some (.lst (xs.map D.int)), some (.dat (.int (k : Int))), some (.dat (.int co'))]) fun fl ρ => fl = .nx ∧ RwI p (1 + m) (k + 1) ρ := by
      intro co' hc hne
      simp [pw2, pw3, pw5]
      refine (fin co' hc hne).mono ?_
      rintro r ρ ⟨y, w', rfl, mo, rfl, hI⟩
      simp [mo, hz]
      rw [List.map_append] at hI
      exact hI
    by_cases c0 : co = 0
    · subst c0
      by_cases ck : (k : Int) ∈ [(0 : Int), 1 + m]
      · rw [decide_eq_true ck] at hin
        have := run 1 (by decide) (fun _ => by decide)
        simpa [hin] using this
      · rw [decide_eq_false ck] at hin
        have hn : ((k : Int) = 0 ∨ (k : Int) = 1 + m) → (0 : Int) ≠ 0 := fun z => absurd (by simpa using z) ck
        have := run 0 (by decide) hn
        simpa [hin] using this
    · have := run co hco (fun _ => c0)
      simpa [c0] using this
  · rintro ρ ⟨w, xs, a, b, hj, hlen, hall, hend, rfl⟩
    rw [upto_len] at hlen
    simp
    refine ⟨xs, rfl, ⟨by omega, by omega, hall, ?_, ?_⟩, _, hj, rfl⟩
    · have : xs[0]? = some (cf xs 0) := cf_at (by omega)
      exact hend 0 _ this (.inl rfl)
    · have : xs[xs.length - 1]? = some (cf xs (xs.length - 1)) := cf_at (by omega)
      exact hend _ _ this (.inr (by omega))
end Hd

namespace Hd
open PySem PySem.Spec Spl
theorem hv_lt {p n : Int} {b : Nat} (h2 : 2 ≤ p) (hn : n ≠ 0) (hb : n.natAbs < 2 ^ b) : hv p n < b := by
  have v := (hv_ok h2 hn).1
  have h1 : (p ^ hv p n).natAbs ∣ n.natAbs := Int.natAbs_dvd_natAbs.mpr v
  have h3 := Nat.le_of_dvd (by omega) h1
  rw [Int.natAbs_pow] at h3
  have h4 : 2 ^ hv p n ≤ p.natAbs ^ hv p n := Nat.pow_le_pow_left (by omega) _
  refine Classical.byContradiction fun hn => ?_
  have : 2 ^ b ≤ 2 ^ hv p n := Nat.pow_le_pow_right (by decide) (by omega)
  omega
/-- what a polynomial keeps: numbers below 2 ^ b, at most n of them, heights of the ends at most E -/
structure Pol (p : Int) (b E n : Nat) (f : List Int) : Prop where
  two : 2 ≤ f.length
  top : f.length ≤ n
  fst : cf f 0 ≠ 0
  lst : cf f (f.length - 1) ≠ 0
  bnd : ∀ i, (cf f i).natAbs < 2 ^ b
  e0 : hv p (cf f 0) ≤ E
  e1 : hv p (cf f (f.length - 1)) ≤ E
theorem Pol.rt {p : Int} {b E n : Nat} {f : List Int} (h : Pol p b E n f) (h2 : 2 ≤ p) (hb : b ≤ 900) (hE : E ≤ 60) (hn : n ≤ 501) : Rt p f :=
  ⟨⟨h.two, by have := h.two; omega, by have := h.top; omega, h.fst, h.lst⟩, fun i hi => by have := hv_lt h2 hi (h.bnd i); omega, by have := h.e0; omega, by have := h.e1; omega⟩
theorem Pol.rw1 {p : Int} {b E n : Nat} {f : List Int} (h : Pol p b E n f) (hn : n ≤ 501) : Rw 1 f := ⟨by have := h.two; omega, by have := h.two; omega, by have := h.top; omega, h.fst, h.lst⟩
theorem Pol.nz {p : Int} {b E n : Nat} {f : List Int} (h : Pol p b E n f) : nz f := ⟨0, h.fst⟩
theorem pc_zero {f g : List Int} (hf : f ≠ []) : pc f g 0 = cf f 0 * cf g 0 := by
  unfold pc
  rw [sum_one (i0 := 0) (List.length_pos_iff.mpr hf)]
  have e : ((List.range f.length).map fun i => if i = 0 then 0 else pterm f g 0 i) = (List.range f.length).map fun _ => 0 := List.map_congr_left fun i _ => by
    by_cases h : i = 0
    · rw [if_pos h]
    · rw [if_neg h]
      unfold pterm
      rw [if_neg (by omega)]
  rw [e]
  have z : ∀ n : Nat, ((List.range n).map fun _ : Nat => (0 : Int)).sum = 0 := fun n => by
    induction n with
    | zero => rfl
    | succ n ih => rw [List.range_succ, List.map_append, List.sum_append, ih]; rfl
  rw [z]
  unfold pterm
  rw [if_pos (Nat.le_refl _)]
  simp
theorem pc_end {f g : List Int} (hf : f ≠ []) (hg : g ≠ []) : pc f g (f.length + g.length - 2) = cf f (f.length - 1) * cf g (g.length - 1) := by
  have h1 := List.length_pos_iff.mpr hf
  have h2 := List.length_pos_iff.mpr hg
  unfold pc
  rw [sum_one (i0 := f.length - 1) (by omega)]
  have e : ((List.range f.length).map fun i => if i = f.length - 1 then 0 else pterm f g (f.length + g.length - 2) i) = (List.range f.length).map fun _ => 0 := List.map_congr_left fun i hi => by
    have hi := List.mem_range.mp hi
    by_cases h : i = f.length - 1
    · rw [if_pos h]
    · rw [if_neg h]
      unfold pterm
      rw [if_pos (by omega)]
      have : cf g (f.length + g.length - 2 - i) = 0 := by unfold cf; rw [List.getElem?_eq_none (by omega)]; rfl
      rw [this, Int.mul_zero]
  rw [e]
  have z : ∀ n : Nat, ((List.range n).map fun _ : Nat => (0 : Int)).sum = 0 := fun n => by
    induction n with
    | zero => rfl
    | succ n ih => rw [List.range_succ, List.map_append, List.sum_append, ih]; rfl
  rw [z]
  unfold pterm
  rw [if_pos (by omega), show f.length + g.length - 2 - (f.length - 1) = g.length - 1 by omega]
  omega
theorem sum_bnd {B : Nat} : ∀ {l : List Int}, (∀ x ∈ l, x.natAbs ≤ B) → l.sum.natAbs ≤ l.length * B
  | [], _ => by simp
  | x :: l, h => by
    have ih := sum_bnd (l := l) fun y hy => h y (List.mem_cons_of_mem _ hy)
    have hx := h x (List.mem_cons_self ..)
    rw [List.sum_cons, List.length_cons, Nat.succ_mul]
    omega
theorem prod_len {f g : List Int} : (prodC f g).length = f.length + g.length - 1 := by unfold prodC; rw [List.length_map, List.length_range]
theorem Pol.prod {p : Int} {b c E F n m : Nat} {f g : List Int} (P : Okp p) (h : Pol p b E n f) (k : Pol p c F m g) (hn : n ≤ 16) : Pol p (b + c + 4) (E + F) (n + m) (prodC f g) := by
  have h1 := h.two
  have h2 := k.two
  have h3 := h.top
  have h4 := k.top
  have hf : f ≠ [] := fun z => by rw [z] at h1; simp at h1
  have hg : g ≠ [] := fun z => by rw [z] at h2; simp at h2
  have c0 : cf (prodC f g) 0 = cf f 0 * cf g 0 := by rw [cf_prod hf hg, pc_zero hf]
  have c1 : cf (prodC f g) ((prodC f g).length - 1) = cf f (f.length - 1) * cf g (g.length - 1) := by
    rw [cf_prod hf hg, prod_len, show f.length + g.length - 1 - 1 = f.length + g.length - 2 by omega, pc_end hf hg]
  have v0 := (hv_ok P.two h.fst).mul P.prm (hv_ok P.two k.fst)
  have v1 := (hv_ok P.two h.lst).mul P.prm (hv_ok P.two k.lst)
  refine ⟨by rw [prod_len]; omega, by rw [prod_len]; omega, by rw [c0]; exact Int.mul_ne_zero h.fst k.fst, by rw [c1]; exact Int.mul_ne_zero h.lst k.lst, fun i => ?_, ?_, ?_⟩
  · rw [cf_prod hf hg]
    unfold pc
    have hB := sum_bnd (B := 2 ^ (b + c) - 1) (l := (List.range f.length).map (pterm f g i)) fun x hx => by
      obtain ⟨j, _, rfl⟩ := List.mem_map.mp hx
      unfold pterm
      have hp : 0 < 2 ^ (b + c) := Nat.pow_pos (by decide)
      split
      · rw [Int.natAbs_mul]
        have a1 := h.bnd j
        have a2 := k.bnd (i - j)
        have := Nat.mul_lt_mul_of_lt_of_le a1 (Nat.le_of_lt a2) (Nat.pow_pos (by decide))
        rw [← Nat.pow_add] at this
        omega
      · simp
    rw [List.length_map, List.length_range] at hB
    have hp : 0 < 2 ^ (b + c) := Nat.pow_pos (by decide)
    have : f.length * (2 ^ (b + c) - 1) ≤ 16 * (2 ^ (b + c) - 1) := Nat.mul_le_mul_right _ (by omega)
    have e : 2 ^ (b + c + 4) = 16 * 2 ^ (b + c) := by rw [Nat.pow_add]; omega
    omega
  · rw [c0, hv_eq P.two v0]
    have := h.e0; have := k.e0; omega
  · rw [c1, hv_eq P.two v1]
    have := h.e1; have := k.e1; omega
theorem cr_chk : ∀ p ∈ PS, ∀ c ∈ cores, ∀ e ∈ exps, (c * (p : Int) ^ e).natAbs < 2 ^ 60 ∧ (c ≠ 0 → ∀ q ∈ PS, ¬ ((q : Int) ^ 7 ∣ c * (p : Int) ^ e)) := by decide +kernel
theorem crow_pol {p q : Nat} (hp : p ∈ PS) (hq : q ∈ PS) {f : List Int} (h : Crow (p : Int) f) : Pol (q : Int) 60 6 8 f := by
  have one : ∀ i, (cf f i).natAbs < 2 ^ 60 ∧ (cf f i ≠ 0 → hv (q : Int) (cf f i) ≤ 6) := fun i => by
    by_cases hi : i < f.length
    · obtain ⟨c, hc, e, he, hx⟩ := h.all _ (List.mem_of_getElem? (cf_at hi))
      obtain ⟨k1, k2⟩ := cr_chk p hp c hc e he
      rw [hx]
      refine ⟨k1, fun hne => ?_⟩
      have hc0 : c ≠ 0 := fun z => hne (by rw [z, Int.zero_mul])
      refine Classical.byContradiction fun hn => k2 hc0 q hq ?_
      exact Int.dvd_trans (pow_dvdI (by omega)) (hv_ok (okp_of hq).two hne).1
    · have : cf f i = 0 := by unfold cf; rw [List.getElem?_eq_none (by omega)]; rfl
      rw [this]
      exact ⟨by decide, fun z => absurd rfl z⟩
  exact ⟨h.two, h.top, h.fst, h.lst, fun i => (one i).1, (one 0).2 h.fst, (one _).2 h.lst⟩
/-- rungs of a product -/
theorem wid_prod {p : Int} (P : Okp p) {f g : List Int} (hf : nz f) (hg : nz g) : sortI (expW (tl p (prodC f g))) = sortI (sortI (expW (tl p f)) ++ sortI (expW (tl p g))) := by
  refine sorted_uniq ?_ (sortI_le _) (sortI_le _)
  refine (sortI_perm _).trans (List.Perm.trans ?_ (sortI_perm _).symm)
  refine List.Perm.trans ?_ ((sortI_perm _).symm.append (sortI_perm _).symm)
  rw [expW_D, expW_D, expW_D, ← List.map_append]
  exact (dumas P.prm hf hg).map _
theorem deg_in {p : Int} {f F : List Int} {Y : List PI} (hf : Rt p f) (hF : nz F) (h : (expD (tl p F)).Perm (expD (tl p f) ++ Y)) : SmS (rgs (tl p F)) (· = 0) ((f.length - 1 : Nat) : Int) := by
  have := sms_chn (tl_chn (p := p) hF) (A := (· = 0)) (a := 0) h rfl
  rw [sx1_expD (tl_head hf) (tl_last hf)] at this
  simp only at this
  rwa [show (0 : Int) + (((f.length - 1 : Nat) : Int) - 0) = ((f.length - 1 : Nat) : Int) by omega] at this
end Hd

namespace Hd
open PySem PySem.Spec Spl
theorem wbI {n : Nat} {i : Int} (h : i.natAbs ≤ 500) : Wb n 10 (.int i) := Wb.intB (k := 4) (Nat.lt_of_le_of_lt h (by decide)) (by decide) (by decide) (Nat.lt_of_le_of_lt h (by decide)) (by decide)
theorem wbPr {p : PI} (h : p.1.natAbs ≤ 500 ∧ p.2.natAbs ≤ 500) : Wb 1 22 (pr p) := Wb.tup2 (wbI h.1) (wbI h.2)
theorem wbLad {L : List PI} {deg : Int} (v : Val L deg) : Wb 2 23000 (lad L) := Wb.tup (c := 22) (k := 1000) (fun x hx => by
  obtain ⟨p, hp, rfl⟩ := List.mem_map.mp hx
  exact wbPr (by have := v.rng p hp; omega)) (by simpa using v.sz)
theorem sortSet_ints {ns : List Int} (h : ns.length < 64) : sortSetI (.lst (ns.map D.int)) = some (.tmp (.lst ((sortI (ddI ns)).map D.int))) := by
  have e := intsOf_map (xs := ns) (f := fun i => i)
  have e2 : D.intsOf (ns.map D.int) = some ns := by rw [show ns.map D.int = ns.map (fun i => D.int i) from rfl, e]; simp
  show (D.intsOf (ns.map D.int)).bind _ = _
  rw [e2]
  exact if_pos h
theorem neT (U : List Int) : neD (.tup (U.map D.int)) (.tup (U.map D.int)) = some (.val (.bl false)) := neD_self (n := 1) (Nm.tup Nm.ints).sh (by decide)
theorem neL (U : List Int) : neD (.lst (U.map D.int)) (.lst (U.map D.int)) = some (.val (.bl false)) := neD_self (n := 1) (Nm.lst Nm.ints).sh (by decide)
def RgtI (k : Nat) (ρ : Rho) : Prop := ∃ (w : W) (x1 x2 x3 x4 x5 x6 x7 x8 x9 x10 x11 x12 : Option W), Jug w ∧ ρ = [some w, x1, x2, x3, x4, x5, x6, x7, x8, x9, x10, x11, x12, none, none]
theorem p_right {w : W} (h : Jug w) : Ret F__law_right [w] fun r _ => r = .dat (.bl true) := by
  obtain ⟨a, b, c, rfl⟩ := h
  refine Ret.of rfl rfl ?_
  have i5 : inR 5 := inR_small (by omega) (by omega)
  simp [b__law_right, List.replicate, i5]
  refine Ok_for' RgtI _ _ ⟨_, _, _, _, _, _, _, _, _, _, _, _, _, ⟨a, b, c, rfl⟩, rfl⟩ ?_ ?_
  · rintro i x ρ hx ⟨_, x1, x2, x3, x4, x5, x6, x7, x8, x9, x10, x11, x12, ⟨a, b, c, rfl⟩, rfl⟩
    simp
    refine (p_pick ⟨a, b, c, rfl⟩ (xs := [2, 3, 5, 7, 997]) (by decide) (by decide)).ok (by simp) ?_
    rintro _ _ _ ⟨pI, hpI, rfl, _, ⟨a, b, c, rfl⟩, rfl⟩
    simp
    refine (p_pick ⟨a, b, c, rfl⟩ (xs := [2, 3, 11, 13]) (by decide) (by decide)).ok (by simp) ?_
    rintro _ _ _ ⟨qI, hqI, rfl, _, ⟨a, b, c, rfl⟩, rfl⟩
    obtain ⟨p, rfl, hp⟩ : ∃ p : Nat, pI = p ∧ p ∈ PS := by
      simp only [List.mem_cons, List.not_mem_nil, or_false] at hpI
      rcases hpI with rfl | rfl | rfl | rfl | rfl
      · exact ⟨2, rfl, by decide⟩
      · exact ⟨3, rfl, by decide⟩
      · exact ⟨5, rfl, by decide⟩
      · exact ⟨7, rfl, by decide⟩
      · exact ⟨997, rfl, by decide⟩
    obtain ⟨q, rfl, hq⟩ : ∃ q : Nat, qI = q ∧ q ∈ PS := by
      simp only [List.mem_cons, List.not_mem_nil, or_false] at hqI
      rcases hqI with rfl | rfl | rfl | rfl
      · exact ⟨2, rfl, by decide⟩
      · exact ⟨3, rfl, by decide⟩
      · exact ⟨11, rfl, by decide⟩
      · exact ⟨13, rfl, by decide⟩
    have Pp := okp_of hp
    have Pq := okp_of hq
    simp
    refine (q_row ⟨a, b, c, rfl⟩ Pp.two Pp.top).ok (by simp) ?_
    rintro _ _ _ ⟨f, rfl, cf1, _, ⟨a, b, c, rfl⟩, rfl⟩
    simp
    refine (q_row ⟨a, b, c, rfl⟩ Pp.two Pp.top).ok (by simp) ?_
    rintro _ _ _ ⟨g, rfl, cg1, _, ⟨a, b, c, rfl⟩, rfl⟩
    simp
    refine (q_row ⟨a, b, c, rfl⟩ Pq.two Pq.top).ok (by simp) ?_
    rintro _ _ _ ⟨e, rfl, ce1, _, ⟨a, b, c, rfl⟩, rfl⟩
    -- what is known of the three, for both primes
    have pol : ∀ t ∈ PS, Pol (t : Int) 60 6 8 f ∧ Pol (t : Int) 60 6 8 g ∧ Pol (t : Int) 60 6 8 e := fun t ht => ⟨crow_pol hp ht cf1, crow_pol hp ht cg1, crow_pol hq ht ce1⟩
    have poF : ∀ t ∈ PS, Pol (t : Int) 124 12 16 (prodC f g) := fun t ht => (pol t ht).1.prod (okp_of ht) (pol t ht).2.1 (by decide)
    have poE : ∀ t ∈ PS, Pol (t : Int) 188 18 24 (prodC (prodC f g) e) := fun t ht => (poF t ht).prod (okp_of ht) (pol t ht).2.2 (by decide)
    have rt : ∀ t ∈ PS, Rt (t : Int) f ∧ Rt (t : Int) g ∧ Rt (t : Int) e ∧ Rt (t : Int) (prodC f g) ∧ Rt (t : Int) (prodC (prodC f g) e) := fun t ht =>
      have h2 := (okp_of ht).two
      ⟨(pol t ht).1.rt h2 (by decide) (by decide) (by decide), (pol t ht).2.1.rt h2 (by decide) (by decide) (by decide), (pol t ht).2.2.rt h2 (by decide) (by decide) (by decide), (poF t ht).rt h2 (by decide) (by decide) (by decide), (poE t ht).rt h2 (by decide) (by decide) (by decide)⟩
    have lf1 := cf1.top
    have lg1 := cg1.top
    have le1 := ce1.top
    have lf2 := cf1.two
    have lg2 := cg1.two
    have le2 := ce1.two
    have lF : (prodC f g).length = f.length + g.length - 1 := prod_len
    have lE : (prodC (prodC f g) e).length = f.length + g.length - 1 + e.length - 1 := by rw [prod_len, prod_len]
    have hf : f ≠ [] := fun z => by rw [z] at lf2; simp at lf2
    have hg : g ≠ [] := fun z => by rw [z] at lg2; simp at lg2
    have bg : ∀ i, (cf g i).natAbs < 2 ^ 64 := fun i => Nat.lt_of_lt_of_le ((pol p hp).2.1.bnd i) (by decide)
    have be : ∀ i, (cf e i).natAbs < 2 ^ 64 := fun i => Nat.lt_of_lt_of_le ((pol p hp).2.2.bnd i) (by decide)
    have lm := p_lmul hf hg (by omega) bg
    have mu := p_multiplied ((pol p hp).1.rw1 (by decide)) ((pol p hp).2.1.rw1 (by decide)) (by omega) bg
    have mu2 := p_multiplied ((poF p hp).rw1 (by decide)) ((pol p hp).2.2.rw1 (by decide)) (by omega) be
    have ne1 : neD (rowT (prodC f g)) (rowT (prodC f g)) = some (.val (.bl false)) := neT _
    have z4 : (4 : Nat) ≤ sizeLine := by decide
    simp [lm.a2, mu.a2, ne1, z4]
    refine Ok_for' (fun _ ρ => ∃ x8 x9, ρ = [some (.lst [.int a, .int b, .int c]), some (.dat x), some (.dat (.int (p : Int))), some (.dat (.int (q : Int))), some (.dat (rowT f)), some (.dat (rowT g)), some (.dat (rowT e)), some (.dat (rowT (prodC f g))), x8, x9, x10, x11, x12, none, none]) _ _ ⟨_, _, rfl⟩ ?_ ?_
    · rintro j d ρ hd ⟨x8, x9, rfl⟩
      obtain ⟨y, rfl, y1, y2⟩ : ∃ y, d = rowT y ∧ Rt (p : Int) y ∧ Rt (q : Int) y := by
        have hm := List.mem_of_getElem? hd
        simp only [List.mem_cons, List.not_mem_nil, or_false] at hm
        rcases hm with rfl | rfl | rfl | rfl
        · exact ⟨f, rfl, (rt p hp).1, (rt q hq).1⟩
        · exact ⟨g, rfl, (rt p hp).2.1, (rt q hq).2.1⟩
        · exact ⟨e, rfl, (rt p hp).2.2.1, (rt q hq).2.2.1⟩
        · exact ⟨_, rfl, (rt p hp).2.2.2.1, (rt q hq).2.2.2.1⟩
      have t1 := p_told Pp y1
      have t2 := p_told Pq y2
      have k1 := p_climb Pp y1
      have k2 := p_climb Pq y2
      have re : reprD (.lst [lad (tl (p : Int) y), lad (tl (q : Int) y)]) = _ := reprX_bl' (Wb.lst (n := 2) (c := 23000) (k := 2) (fun x hx => by
        simp only [List.mem_cons, List.not_mem_nil, or_false] at hx
        rcases hx with rfl | rfl
        · exact wbLad (tl_val y1)
        · exact wbLad (tl_val y2)) (by simp)) (by decide) (by decide)
      simp [t1.a2, t2.a2, k1.a2, k2.a2, re, neD_str]
    · rintro ρ ⟨x8, x9, rfl⟩
      have rp := rt p hp
      have t1 := p_told Pp rp.1
      have t2 := p_told Pp rp.2.1
      have t3 := p_told Pp rp.2.2.2.1
      simp [t3.a2]
      refine (p_widths (tl_val rp.2.2.2.1)).ok (by simp) ?_
      rintro _ _ _ ⟨rfl, rfl⟩
      simp [t1.a2]
      refine (p_widths (tl_val rp.1)).ok (by simp) ?_
      rintro _ _ _ ⟨rfl, rfl⟩
      simp [t2.a2]
      refine (p_widths (tl_val rp.2.1)).ok (by simp) ?_
      rintro _ _ _ ⟨rfl, rfl⟩
      have wl : ∀ {L : List PI} {deg : Int}, Val L deg → (sortI (expW L)).length ≤ 500000 := fun {L deg} v => by
        rw [(sortI_perm _).length_eq]
        have hR : (rgs L).length ≤ 1000 := by rw [rgs, List.length_map, stp_len]; have := v.sz; omega
        have : (expW L).length ≤ 500 * (rgs L).length := rep_len fun x hx => (v.rung hx).2.2.2
        omega
      have w1 := wl (tl_val rp.1)
      have w2 := wl (tl_val rp.2.1)
      have hz : (sortI (expW (tl (p : Int) f))).length + (sortI (expW (tl (p : Int) g))).length ≤ sizeLine := Nat.le_trans (by omega : _ ≤ 1000000) (by decide)
      have so := sorted_ints (ns := sortI (expW (tl (p : Int) f)) ++ sortI (expW (tl (p : Int) g)))
      rw [List.map_append] at so
      have we := wid_prod Pp (f := f) (g := g) (pol p hp).1.nz (pol p hp).2.1.nz
      have ne2 := neL (sortI (expW (tl (p : Int) (prodC f g))))
      rw [← we] at so
      have z2 : (2 : Nat) ≤ sizeLine := by decide
      have ss := sortSet_ints (ns := [(p : Int), (q : Int)]) (by simp)
      simp only [List.map_cons, List.map_nil] at ss
      simp [addD_lst, hz, so, ne2, mu2.a2, ss]
      -- the ladders of the whole
      have hxs : ∀ x ∈ sortI (ddI [(p : Int), (q : Int)]), ∃ t : Nat, x = (t : Int) ∧ t ∈ PS := fun x hx => by
        have h1 := ddI_mem.mp ((sortI_perm _).mem_iff.mp hx)
        simp only [List.mem_cons, List.not_mem_nil, or_false] at h1
        rcases h1 with rfl | rfl
        · exact ⟨p, rfl, hp⟩
        · exact ⟨q, rfl, hq⟩
      have hp0 : (p : Int) ∈ sortI (ddI [(p : Int), (q : Int)]) := (sortI_perm _).mem_iff.mpr (ddI_mem.mpr (List.mem_cons_self ..))
      have hxl : (sortI (ddI [(p : Int), (q : Int)])).length ≤ 2 := by
        rw [(sortI_perm _).length_eq]
        unfold ddI
        split
        · unfold ddI; split <;> simp [ddI]
        · unfold ddI; split <;> simp [ddI]
      generalize sortI (ddI [(p : Int), (q : Int)]) = xs at hxs hp0 hxl ss
      have hsz : xs.length ≤ sizeLine := Nat.le_trans hxl (by decide)
      have v : Vals (xs.map fun x => tl x (prodC (prodC f g) e)) (((prodC (prodC f g) e).length - 1 : Nat) : Int) := ⟨fun z => (by
        rw [List.map_eq_nil_iff] at z
        rw [z] at hp0
        cases hp0), by rw [List.length_map]; omega, fun L hL => by
        obtain ⟨x, hx, rfl⟩ := List.mem_map.mp hL
        obtain ⟨t, rfl, ht⟩ := hxs x hx
        exact tl_val (rt t ht).2.2.2.2⟩
      have el : (xs.map fun x => lad (tl x (prodC (prodC f g) e))) = (xs.map fun x => tl x (prodC (prodC f g) e)).map lad := by rw [List.map_map]; rfl
      obtain ⟨T, hT, iT⟩ := p_sums v
      have nv := p_never v iT
      rw [← el] at hT nv
      -- degrees
      have ndeg : ∀ y, (∀ t ∈ PS, Rt (t : Int) y ∧ ∃ Y, (expD (tl (t : Int) (prodC (prodC f g) e))).Perm (expD (tl (t : Int) y) ++ Y)) → ((y.length - 1 : Nat) : Int) ∈ T := fun y hy => (iT.2 _).mpr fun L hL => by
        obtain ⟨x, hx, rfl⟩ := List.mem_map.mp hL
        obtain ⟨t, rfl, ht⟩ := hxs x hx
        obtain ⟨r1, Y, hY⟩ := hy t ht
        exact deg_in r1 (poE t ht).nz hY
      have dF : ∀ t ∈ PS, (expD (tl (t : Int) (prodC (prodC f g) e))).Perm (expD (tl (t : Int) (prodC f g)) ++ expD (tl (t : Int) e)) := fun t ht => dumas (okp_of ht).prm (poF t ht).nz (pol t ht).2.2.nz
      have dfg : ∀ t ∈ PS, (expD (tl (t : Int) (prodC f g))).Perm (expD (tl (t : Int) f) ++ expD (tl (t : Int) g)) := fun t ht => dumas (okp_of ht).prm (pol t ht).1.nz (pol t ht).2.1.nz
      have m1 := ndeg f fun t ht => ⟨(rt t ht).1, _, (dF t ht).trans (((dfg t ht).append_right _).trans (by rw [List.append_assoc]))⟩
      have m2 := ndeg g fun t ht => ⟨(rt t ht).2.1, _, (dF t ht).trans ((((dfg t ht).trans List.perm_append_comm).append_right _).trans (by rw [List.append_assoc]))⟩
      have m3 := ndeg e fun t ht => ⟨(rt t ht).2.2.1, _, (dF t ht).trans List.perm_append_comm⟩
      have m4 := ndeg (prodC f g) fun t ht => ⟨(rt t ht).2.2.2.1, _, dF t ht⟩
      have nT : T ≠ [0, (((prodC (prodC f g) e).length - 1 : Nat) : Int)] := fun z => by
        rw [z] at m1
        simp only [List.mem_cons, List.not_mem_nil, or_false] at m1
        omega
      rw [decide_eq_false nT] at nv
      refine Ok_lcMap xs D.int (fun x => lad (tl x (prodC (prodC f g) e))) ?_
      simp [ss, hsz, vsOk, isDat, wipeR, restR]
      refine ⟨fun x hx => ?_, ?_⟩
      · obtain ⟨t, rfl, ht⟩ := hxs x hx
        simp [(p_told (okp_of ht) (rt t ht).2.2.2.2).a2]
      have lr : ∀ y : List Int, lenD (rowT y) = some (.val (.int (y.length : Int))) := fun y => by unfold rowT; simp
      have cst : ∀ y : List Int, 1 ≤ y.length → ((y.length : Int) - 1) = ((y.length - 1 : Nat) : Int) := fun y hy => by omega
      simp [lr, z4]
      refine Ok_lcFilt [(f.length : Int) - 1, (g.length : Int) - 1, (e.length : Int) - 1, ((prodC f g).length : Int) - 1] D.int D.int (fun _ => false) ?_
      have neN : neD (.lst []) (.lst []) = some (.val (.bl false)) := neL []
      simp [z4, vsOk, isDat, wipeR, restR, neN, nv.a1, hT.a1, notinXT_ints]
      rw [cst f (by omega), cst g (by omega), cst e (by omega), cst (prodC f g) (by omega)]
      exact ⟨⟨m1, m2, m3, m4⟩, _, _, _, _, _, _, _, _, _, _, _, _, _, ⟨a, b, c, rfl⟩, rfl⟩
  · rintro ρ ⟨w, x1, x2, x3, x4, x5, x6, x7, x8, x9, x10, x11, x12, hj, rfl⟩
    simp
end Hd

namespace Hd
open PySem PySem.Spec Spl
theorem hv_c {p n : Int} {e : Nat} (h2 : 2 ≤ p) (h : p ^ e ∣ n ∧ ¬ p ^ (e + 1) ∣ n) : hv p n = e := hv_eq h2 h
theorem pol_c {p : Int} {f : List Int} {b E n : Nat} (h1 : 2 ≤ f.length) (h2 : f.length ≤ n) (h3 : cf f 0 ≠ 0) (h4 : cf f (f.length - 1) ≠ 0) (h5 : ∀ x ∈ f, x.natAbs < 2 ^ b) (h6 : hv p (cf f 0) ≤ E) (h7 : hv p (cf f (f.length - 1)) ≤ E) : Pol p b E n f :=
  ⟨h1, h2, h3, h4, fun i => by
    by_cases hi : i < f.length
    · exact h5 _ (List.mem_of_getElem? (cf_at hi))
    · have : cf f i = 0 := by unfold cf; rw [List.getElem?_eq_none (by omega)]; rfl
      rw [this]
      exact Nat.pow_pos (by decide), h6, h7⟩
theorem P2 : Okp 2 := okp_of (p := 2) (by decide)
theorem P3 : Okp 3 := okp_of (p := 3) (by decide)
theorem a1 : ptsL 2 [2, 0, 4, 1] = [(0, 1), (2, 2), (3, 0)] := by
  unfold ptsL
  rw [show ixs [2, 0, 4, 1] = [0, 2, 3] from by decide]
  simp only [List.map_cons, List.map_nil]
  rw [show cf [2, 0, 4, 1] 0 = 2 from rfl, show cf [2, 0, 4, 1] 2 = 4 from rfl, show cf [2, 0, 4, 1] 3 = 1 from rfl, hv_c (e := 1) (by decide) (by decide), hv_c (e := 2) (n := 4) (by decide) (by decide), hv_c (e := 0) (n := 1) (by decide) (by decide)]
  rfl
theorem b1 : tl 2 [2, 0, 4, 1] = [(0, 1), (3, 0)] := by
  unfold tl shP lea
  rw [a1]
  decide
theorem a2 : ptsL 2 [12, 0, 4, 8] = [(0, 2), (2, 2), (3, 3)] := by
  unfold ptsL
  rw [show ixs [12, 0, 4, 8] = [0, 2, 3] from by decide]
  simp only [List.map_cons, List.map_nil]
  rw [show cf [12, 0, 4, 8] 0 = 12 from rfl, show cf [12, 0, 4, 8] 2 = 4 from rfl, show cf [12, 0, 4, 8] 3 = 8 from rfl, hv_c (e := 2) (n := 12) (by decide) (by decide), hv_c (e := 2) (n := 4) (by decide) (by decide), hv_c (e := 3) (n := 8) (by decide) (by decide)]
  rfl
theorem b2 : tl 2 [12, 0, 4, 8] = [(0, 0), (2, 0), (3, 1)] := by
  unfold tl shP lea
  rw [a2]
  decide
theorem a3 : ptsL 3 [6, 1] = [(0, 1), (1, 0)] := by
  unfold ptsL
  rw [show ixs [6, 1] = [0, 1] from by decide]
  simp only [List.map_cons, List.map_nil]
  rw [show cf [6, 1] 0 = 6 from rfl, show cf [6, 1] 1 = 1 from rfl, hv_c (e := 1) (n := 6) (by decide) (by decide), hv_c (e := 0) (n := 1) (by decide) (by decide)]
  rfl
theorem b3 : tl 3 [6, 1] = [(0, 1), (1, 0)] := by
  unfold tl shP lea
  rw [a3]
  decide
theorem f1 : Fun F_told_by [.tup [.int 2, .int 0, .int 4, .int 1], .int 2] (.tup [.tup [.int 0, .int 1], .tup [.int 3, .int 0]]) := by
  have h : Pol 2 60 6 8 [2, 0, 4, 1] := pol_c (by decide) (by decide) (by decide) (by decide) (by decide) (by rw [show cf [2, 0, 4, 1] 0 = 2 from rfl, hv_c (e := 1) (by decide) (by decide)]; decide) (by show hv 2 (1 : Int) ≤ 6; rw [hv_c (e := 0) (by decide) (by decide)]; decide)
  have t := p_told P2 (h.rt (by decide) (by decide) (by decide) (by decide))
  rw [b1] at t
  exact t
theorem f2 : Fun F_told_by [.tup [.int 12, .int 0, .int 4, .int 8], .int 2] (.tup [.tup [.int 0, .int 0], .tup [.int 2, .int 0], .tup [.int 3, .int 1]]) := by
  have h : Pol 2 60 6 8 [12, 0, 4, 8] := pol_c (by decide) (by decide) (by decide) (by decide) (by decide) (by rw [show cf [12, 0, 4, 8] 0 = 12 from rfl, hv_c (e := 2) (by decide) (by decide)]; decide) (by show hv 2 (8 : Int) ≤ 6; rw [hv_c (e := 3) (by decide) (by decide)]; decide)
  have t := p_told P2 (h.rt (by decide) (by decide) (by decide) (by decide))
  rw [b2] at t
  exact t
theorem f3 : Fun F_told_by [.tup [.int 6, .int 1], .int 3] (.tup [.tup [.int 0, .int 1], .tup [.int 1, .int 0]]) := by
  have h : Pol 3 60 6 8 [6, 1] := pol_c (by decide) (by decide) (by decide) (by decide) (by decide) (by rw [show cf [6, 1] 0 = 6 from rfl, hv_c (e := 1) (by decide) (by decide)]; decide) (by show hv 3 (1 : Int) ≤ 6; rw [hv_c (e := 0) (by decide) (by decide)]; decide)
  have t := p_told P3 (h.rt (by decide) (by decide) (by decide) (by decide))
  rw [b3] at t
  exact t
theorem f4 : Fun F_multiplied [.tup [.int 2, .int 1], .tup [.int 2, .int 0, .int 1]] (.tup [.int 4, .int 2, .int 2, .int 1]) := by
  have t := p_multiplied (f := [2, 1]) (g := [2, 0, 1]) ⟨by decide, by decide, by decide, by decide, by decide⟩ ⟨by decide, by decide, by decide, by decide, by decide⟩ (by decide) fun i => by
    match i with
    | 0 => decide
    | 1 => decide
    | 2 => decide
    | i + 3 => exact (by decide : (0 : Nat) < 2 ^ 64)
  exact t
theorem f5 : Fun F_multiplied [.tup [.int 3], .tup [.int (-2)]] (.tup [.int (-6)]) := by
  have t := p_multiplied (f := [3]) (g := [-2]) ⟨by decide, by decide, by decide, by decide, by decide⟩ ⟨by decide, by decide, by decide, by decide, by decide⟩ (by decide) fun i => by
    match i with
    | 0 => decide
    | i + 1 => exact (by decide : (0 : Nat) < 2 ^ 64)
  exact t
theorem ans : ∀ ns : List Int, ns.length ≤ 63 → (∀ m ∈ ns, PySem.Builtin.Int.intBits m ≤ 1048576) → ∃ io, F_law [.dat (.scr ns)] = .ret (.dat (.bl true)) io := by
  intro ns hl hb
  have h : Fun F_law [.scr ns] (.bl true) := by
    refine Fun.of rfl ?_
    have n1 : neD (.lst [.tup [.tup [.int 0, .int 1], .tup [.int 3, .int 0]], .tup [.tup [.int 0, .int 0], .tup [.int 2, .int 0], .tup [.int 3, .int 1]], .tup [.int 4, .int 2, .int 2, .int 1]]) (.lst [.tup [.tup [.int 0, .int 1], .tup [.int 3, .int 0]], .tup [.tup [.int 0, .int 0], .tup [.int 2, .int 0], .tup [.int 3, .int 1]], .tup [.int 4, .int 2, .int 2, .int 1]]) = some (.val (.bl false)) := by rfl
    have n2 : neD (.tup [.tup [.int 0, .int 1], .tup [.int 1, .int 0]]) (.tup [.tup [.int 0, .int 1], .tup [.int 1, .int 0]]) = some (.val (.bl false)) := by rfl
    have n3 : neD (.tup [.int (-6)]) (.tup [.int (-6)]) = some (.val (.bl false)) := by rfl
    simp [b_law, List.replicate, f1.a2, f2.a2, f3.a2, f4.a2, f5.a2, n1, n2, n3]
    obtain ⟨k, hk, hk5⟩ : ∃ k : Nat, min2D (.int (ns.length : Int)) (.int 5) = some (.val (.int (k : Int))) ∧ k ≤ 5 := by
      by_cases h5 : 5 < ns.length
      · refine ⟨5, ?_, by omega⟩
        show some (R.val (.int (if (5 : Int) < (ns.length : Int) then 5 else (ns.length : Int)))) = _
        rw [if_pos (by omega)]; rfl
      · refine ⟨ns.length, ?_, by omega⟩
        show some (R.val (.int (if (5 : Int) < (ns.length : Int) then 5 else (ns.length : Int)))) = _
        rw [if_neg (by omega)]
    obtain ⟨m, hm, hm5⟩ : ∃ m : Nat, max2D (.int 2) (.int (k : Int)) = some (.val (.int (m : Int))) ∧ m ≤ 5 := by
      by_cases h2 : 2 < k
      · refine ⟨k, ?_, by omega⟩
        show some (R.val (.int (if (k : Int) > 2 then (k : Int) else 2))) = _
        rw [if_pos (by omega)]
      · refine ⟨2, ?_, by omega⟩
        show some (R.val (.int (if (k : Int) > 2 then (k : Int) else 2))) = _
        rw [if_neg (by omega)]; rfl
    have im : inR (m : Int) := inR_nat (by omega)
    refine Ok_lcMap (upto 0 m) id (fun _ => .bl true) ?_
    have hs : m ≤ sizeLine := Nat.le_trans hm5 (by decide)
    simp [hk, hm, im, upto_len, hs, vsOk, isDat, wipeR, restR, all_bl]
    intro x hx
    obtain ⟨i, hi⟩ := List.getElem?_of_mem hx
    obtain ⟨hi, rfl⟩ := upto_some hi
    simp
    refine p_jug.ok (by simp) ?_
    rintro _ io _ ⟨a, b, c, rfl⟩
    have e : ∀ ρ, backW [.dat (.scr ns), .dat (.int (i : Int))] io ρ = ρ := fun ρ => backW_dat (ds := [.scr ns, .int (i : Int)])
    rw [e]
    refine Ret.tmp0 (p_right ⟨a, b, c, rfl⟩) ?_
    rintro u io' rfl
    simp
  obtain ⟨io, e, _⟩ := h
  exact ⟨io, e⟩
end Hd

set_option maxHeartbeats 0
namespace Hd
open PySem PySem.Spec PyProof.Rows L2 Spl
abbrev R : PySem.W.OpenRow := PySem.W.OpenLaw.row PySem.Challenge.rw_splitcorners_k35_whole_ladders_of_produc
abbrev hk : PySem.W.Hook := He.hookD 5 fa fn
def ob (s : PySem.W.SharedT) : He.AlD := He.obsDG 5 fa fn (HandSHeadRun.getT s)
theorem ob_eq (s : PySem.W.SharedT) : ob s = hk.obs s.abs := He.obsDG_eq (HandSHeadRun.getT_eq s)
def loose0 : List PySem.Str := ["NotRight", "InvalidNumber", "InvalidTerms", "InvalidLadders", "NotPossible", "TooGreat", "MOST_DEGREE", "MOST_HEIGHT", "MOST_LADDERS", "MOST_PRIME", "is_integer", "is_between", "is_pair", "common", "is_prime", "is_ladder", "check_ladders", "rungs_of", "sums_of", "rungs"]
def loose1 : List PySem.Str := ["sums", "never_factors", "check_row", "height_of", "below", "is_bent", "told_by", "product_of", "multiplied", "_law_jug", "_law_pour", "_law_pick", "_law_cross", "_law_lower", "_law_power", "_law_climb", "_law_multiplied", "_law_row", "_law_widths", "_law_right"]
def loose : List PySem.Str := loose0 ++ loose1
theorem run (w : World) : HandSHeadRun.RunEq R (PySem.W.view R.prog [44]) hk ob 20000 loose w := by
  intro os
  kernel_rfl
theorem facts {P : Program} {w : World} {K : PySem.W.Frag} {h : Heap} {mg : Str → Option Value} {f : Addr} (X : K.In h) (G : h.Ns mainGlobals mg) (hfa : mg ("law" : Str) = some (.ref f)) (c : He.SaysD fa fn K) :
    ∃ fd : FuncData, (∀ (s : Shared) (v : Value), BindsTo s fd ⟨[v], []⟩ [("_law_script", v)]) ∧ ∀ base : Heap, K.In base → base.Ns mainGlobals mg → FnG P w K mg base 9 f fd ["_law_script"] (spF K F_law) := by
  have x : Fx w K mg := ⟨c, h, X, G⟩
  have e := hfa.symm.trans (g_law x)
  cases e
  have b := FunD.bindsA (ps := ["_law_script"]) (D_law x) fun _ _ _ _ _ _ us hl => match us, hl with | [_], _ => rfl
  exact ⟨fd_law x, fun s v => b s [v] rfl, fun base _ _ => ok_law x⟩
end Hd
open PySem PySem.W PySem.Calls PyProof.Rows
theorem PySem.Challenge.cw_splitcorners_k35_whole_ladders_of_produc_holds : PySem.Challenge.rw_splitcorners_k35_whole_ladders_of_produc.Holds := by
  w_on; o_law
  refine HandSHeadRun.head_any (r := OpenLaw.row PySem.Challenge.rw_splitcorners_k35_whole_ladders_of_produc) (q := view (OpenLaw.row PySem.Challenge.rw_splitcorners_k35_whole_ladders_of_produc).prog [44]) (H := Hd.hk) (ob := Hd.ob) (M := 20000) (loose := Hd.loose) (d := HandSHeadRun.topDef (OpenLaw.row PySem.Challenge.rw_splitcorners_k35_whole_ladders_of_produc).prog 44) (kwd := []) Hd.ob_eq
    (by kernel_rfl) (fun s => by kernel_rfl) Hd.run (by kernel_rfl) (by kernel_rfl) (by kernel_rfl) (by rfl) (by first | assumption | decide +kernel) (by decide +kernel) ⟨rfl, rfl, rfl, rfl, rfl, by decide +kernel⟩ ?hw ?hc
  case hw => w_witness2
  case hc =>
    refine Spl.law_walkG (l := PySem.Challenge.rw_splitcorners_k35_whole_ladders_of_produc) (n := 63) (k := 9) (x := "_law_script") (Fl := Hd.F_law) rfl (by decide) (by kernel_rfl) ⟨rfl, by decide, by decide⟩ (fun ns hl hb => Hd.ans ns hl hb) ?F
    intro w mg fa h Y G hmg0
    obtain ⟨K, KX, c⟩ := Y
    have hmg : mg ("law" : PySem.Str) = some (.ref fa) := by
      have e : (HandSHeadRun.topDef (OpenLaw.row PySem.Challenge.rw_splitcorners_k35_whole_ladders_of_produc).prog 44).name = ("law" : PySem.Str) := by kernel_rfl
      rw [← e]
      exact hmg0
    obtain ⟨fd, hb, hF⟩ := Hd.facts (P := (PySem.Challenge.rw_splitcorners_k35_whole_ladders_of_produc).prog) (w := w) KX G hmg c
    exact ⟨K, fd, KX, hb, hF⟩
